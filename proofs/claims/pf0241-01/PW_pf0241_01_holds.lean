import PyProof.Rows.All
import Wide.All
import OpenK.AllK
import KE.RegKBase
import KE.BytesMulAny
import KE.KEqDeep
import KE.KxBytes
import PyProof.EqAt
import KE.KBytesCut
import PyProof.LetGo
import PyProof.ListIndexNeg
import KE.BytesMake
import KE.KDictList
import KE.LcSums
import KE.KToBytes
import PyProof.Rows.RuleM_int
import PyProof.Rows.Chain
import PyProof.Rows.AttrNodeAny
import PyProof.PureInt
import PyProof.CompFree
import PyProof.Raises
import PyProof.CompUse
import PyProof.Rows.TupAssign
import PyProof.StationsW
import PyProof.InstStoreFacts
import PyProof.AssignAttr
import PyProof.ExcInit
import PyProof.ExcBaseAll.Exception
import OpenK.KCls
import PyProof.ZipIter
import PyProof.Rows.ZipGen
import PyProof.ListNew
import PyProof.ListOps
import KE.KNest
import Lean
import PySem.Challenge.RW_pf0241_01
set_option Elab.async false
set_option bootstrap.genMatcherCode false
set_option genSizeOf false
set_option genInjectivity false
set_option genCtorIdx false
set_option tactic.hygienic false
set_option linter.all false
set_option autoImplicit false
set_option maxRecDepth 100000
namespace Mine
namespace Internal
open PySem PySem.W PySem.Calls PyProof.Rows
open PySem renaming Value->Cy,Addr->Cz,model->CA,wpAny->CB,Shared->CC,Expr->CD,execs->CE,Heap->CF,World->CQ,callEnvC->CU,wpAny_mono->C1,wpAny_of_eq->C4,mainGlobals->Df,rawInt->Dp,wpAny_holding->Dv,execs->Dw,ExceptHandler->Dy,bm_if_false->DF,wpAny_specialOf->DM,wpAny_standAt->DN,builtinsNs->Ec,builtinLookup_eq_fast->Ev,typeLookup_type->Ew,wpAny_field->EI,exec->EP,wpAny_loadPart_at->EQ,wpAny_truthy_bool->ER,checkBuiltinCall->Fc,wpAny_execs_nil->Fe,wpAny_execs_cons->Fs,letOwnedTupleGo->FO,wpAny_call->FP,getMethod_builtin->Gd,wpAny_Name->Ge,wpAny_isSubtype_exc->Gf,wpAny_load->Gg,wpAny_loadName_local->Gh,wpAny_setField->Gi,bm_if_true->GL,plainId_quiet->GM,wpAny_isInstance->GN,call_meets->Hy,codeAny_of_tree->Hz,wpAny_rule->HC,clipAt_nat->Is,isSubtype_type->It,list_getitem_lookup->Iu,wpAny_bindName->Iw,wpAny_call_entry->Ix,wpAny_newObj_type->Iy,wpAny_typeOf->Iz,Builtin->Jx,Within->JD,callType_codes->JF,call_meetsIn->JG,codeAny_builtin->JH,codeAny_call_cells->JI,entryFor_of_tree->JJ,wpAny_Expr_any->JN,wpAny_assign_Name->JO,wpAny_attempt->JP,wpAny_ite_split->JQ,wpAny_lookBehind->JR,wpAny_mkBytes->JS,wpAny_noted->JT,wpAny_point->JU,wpAny_updateSeq->JV,Fin->Me,call->Mk,list_append->Ml,wpAt_bind->Mm,wpAt_of_wpAny->Mn,arm_isTrue_Compare->Mv,builtinType_eq_fast->Mw,codeAny_call_builtin->Mx,exec_Assign_Name->My,meets_dict_get_default->MB,object_init_meets->MC,pastItsLine_dict->MD,plainObj_wpAny_Assign_Attribute->ME,slot_dict_getitem->MH,slot_list_setitem->MI,slot_listiter_next->MJ,wpAny_assignInOrder_more->MK,wpAny_callSpecial?_slot->ML,wpAny_comprehension_free->MM,wpAny_forIn_list->MN,wpAny_getItem_list->MO,wpAny_getItem_of->MP,wpAny_isTrue_BoolOp->MQ,wpAny_madeBy_exc->MR,wpAny_operating->MS,wpAny_pyIter_list->MU,wpAny_pyIter_zip->MV,wpAny_pyNext_list_item->MW
open _root_.List renaming replicate->CK,range->CL,mem_cons->CR,all_eq_true->CV,getElem?_map->C8,toArray->Da,length_cons->Dc,length_drop->Dd,size_toArray->De,length_take->Dg,append_nil->Dk,mem_cons_of_mem->Dm,getElem?_eq_none->Dq,map_append->Dr,mem_cons_self->Ds,mem_map->Dt,length_range->DC,mem_singleton->DD,not_mem_nil->DE,getElem?_set_ne->DH,length->DI,mem_append->DJ,isEmpty_iff->DR,map_cons->DS,mem_of_getElem?->DT,getElem?_append_left->D6,length_replicate->D9,mem_iff_getElem?->Ea,take_zero->Ef,lookup_cons->EA,take_of_length_le->EB,foldl_cons->EK,getElem?_range->EL,getElem?_eq_none_iff->EU,getElem?_set_self->EV,take_add_one->EW,mem_range->Fj,contains_cons->Fx,of_mem_zip->Fy,take_length->Fz,getElem?_append_right->FU,getElem?_concat_length->FV,getElem_mem->FX,map_fst_zip->FY,map_map->FZ,nodup_cons->F8,filterMap_cons->Gv,length_eq_zero_iff->Gw,mapM_cons->Gx,mem_append_left->Gy,reverse_cons->Gz,take_nil->GA,cons_append->GX,drop_eq_nil_of_le->GY,foldl->GZ,forIn_cons->G8,getElem?_drop->G9,getElem?_toArray->Ha,suffix_cons->Hb,take_succ_cons->Hf,all_cons->HT,any_eq_false->HU,contains_iff_mem->HV,drop_zero->HW,ext_getElem?->HX,flatten_cons->HY,getElem?_replicate->HZ,length_pos_iff->Ia,map->Ib,mem_of_mem_take->Ic,nodup_nil->Ie,push_toArray->Ig,replicate_succ->Ih,set_set->Ii,all_map->IV,any_cons->IW,any_eq_true->IX,drop->IZ,dropWhile_cons->I7,drop_drop->Ja,drop_eq_nil_iff->Jb,drop_nil->Jc,find?_cons->Jd,getElem?_of_mem->Je,getElem?_take->Jf,isEmpty->Jg,length_set->Jh,mem_append_right->Ji,mem_filter->Jj,nodup_append->Jk,range_succ->Jl,dropLast_eq_take->KL,drop_eq_getElem_cons->KM,drop_left->KN,drop_suffix->KO,drop_take->KP,eq_nil_of_length_eq_zero->KR,filterMap_cons_some->KS,find?_map->KT,find?_some->KU,flatMap_append->KV,flatMap_cons->KW,foldl_append->KX,getElem?_cons_succ->KY,getElem?_zip_eq_some->KZ,getElem_inj->K0,length_dropLast->K2,length_nil->K5,length_singleton->K6,map_drop->K7,map_replicate->K8,map_take->K9,mem_of_find?_eq_some->La,nil_append->Lb,nil_prefix->Lc,range_succ_eq_map->Ld,set_append_right->Le,set_comm->Lf,suffix_refl->Lg,take_append->Lh,take_append_drop->Li,zipIdx_cons->Lj,zip_cons_cons->Lk
open _root_.Nat renaming lt_trans->CM,le_of_lt->CN,ne_of_lt->CP,lt_irrefl->CS,ne_of_gt->CW,add_assoc->CX,add_le_add_left->CY,le_of_eq->CZ,add_le_add->C7,le_of_not_lt->Dj,sub_le->DK,lt_succ_self->DU,min_le_right->DV,mul_le_mul_left->DW,not_lt_zero->DX,zero_le->DY,mul_le_mul_right->Eb,add_le_add_right->Eg,le_of_lt_succ->Eh,lt_of_le_of_ne->Ei,sub_sub->Ej,add_comm->En,lt_succ_of_le->Eo,not_lt->Ep,mul_le_mul->Er,lt_succ_of_lt->EC,min_eq_left->ED,succ_le_succ->EE,le_add_left->EM,zero_add->EO,add_sub_cancel'->EX,lt_of_not_le->EY,one_pos->EZ,sub_pos_of_lt->E0,succ_mul->Fa,add_lt_add_left->Fk,le_of_not_le->Fm,min_eq_right->Fn,le_add_right_of_le->FC,le_succ->FF,lt_of_succ_lt_succ->FG,sub_self->FH,succ_pos->FI,min_le_left->F9,pow_le_pow_right->Ga,sub_lt_iff_lt_add'->Gb,add_sub_cancel->GC,div_eq_of_lt->GD,le_of_not_ge->GE,lt_of_lt_of_eq->GF,sub_eq_zero_of_le->GG,sub_lt->GH,zero_mul->GI,le_antisymm->Hg,le_of_succ_le_succ->Hh,lt_add_of_pos_right->Hi,mod_eq_of_lt->Hj,mul_pos->Hk,pow_pos->Hl,succ_add_eq_add_succ->Hm,add_zero->Il,le_of_add_le_add_right->Im,mul_succ->Io,mul_zero->Ip,add_right_comm->Jn,exists_eq_succ_of_ne_zero->Jo,le_mul_of_pos_right->Jp,le_total->Jq,mul_comm->Jr,mul_one->Js,sub_add_cancel->Jt,succ_le_of_lt->Ju,add_div_right->Lm,add_lt_add_right->Ln,add_lt_of_lt_sub'->Lo,add_mod->Lp,add_mul->Lq,add_mul_div_right->Lr,add_mul_mod_self_right->Ls,add_sub_cancel_left->Lu,eq_of_lt_succ_of_not_lt->Lv,le_of_add_right_le->Lw,le_of_sub_eq_zero->Lx,le_of_succ_le->Ly,le_one_iff_eq_zero_or_eq_one->Lz,le_sub_of_add_le'->LA,le_sub_one_of_lt->LB,le_succ_of_le->LC,le_zero->LD,log2_lt->LF,lt_of_add_lt_add_left->LG,lt_of_sub_pos->LH,lt_or_ge->LI,min_comm->LJ,mod_two_eq_zero_or_one->LK,mul_add->LL,not_lt_of_le->LM,pow_lt_pow_right->LN,strongRecOn->LP,sub_add_comm->LQ,sub_add_min_cancel->LS,sub_le_iff_le_add'->LU,sub_le_sub_left->LV,sub_sub_self->LW,toUInt8_eq->LX,zero_lt_of_lt->LY
open _root_.UInt8 renaming ofNat->CT,toNat_ofNat'->GK,toNat_inj->JE,toNat->Mr
open _root_.Option.some renaming inj->C0,injEq->Nf
open _root_.Int renaming ofNat_lt->C2,toNat->DB,natCast_nonneg->DO,ofNat_le->DP,toNat_natCast->DQ,le_trans->DZ,not_lt->Ee,le_of_lt->EJ,lt_trans->Fi,natCast_pow->Fw,natAbs_natCast->FR,natCast_add->FT,natCast_mul->Gs,ofNat_sub->Gu,eq_ofNat_of_zero_le->GP,fdiv_eq_ediv_of_nonneg->GQ,fmod_eq_emod_of_nonneg->GR,natCast_pos->GS,toNat_lt->GT,toNat_of_nonneg->GU,add_comm->HO,le_of_eq->HP,ne_of_gt->HQ,sub_nonneg_of_le->HR,add_sub_cancel->IP,lt_of_le_of_lt->IQ,lt_toNat->IR,not_le->IS,sub_pos_of_lt->IT,ediv_nonneg->Ko,emod_lt_of_pos->Kp,le_max_left->Kq,le_max_right->Kr,lt_of_add_one_le->Ks,lt_of_lt_of_le->Kt,max_eq_right->Ku,mul_comm->Kv,natAbs_of_nonneg->Kw,natCast_ediv->Kx,one_mul->Kz,sub_zero->KA,toNat_le->KB
open PySem.Heap renaming get?_push_of_some->C6,lt_size->Db,ExtBut->Dz,get?_push_size->DA,get?_update_other->Ed,get?_update_self->Em,size_push->HN,dictOf_iff->IL,get?_none_of_le->IM,get?_push_at->IN,SameBut->Km,get?_update_ne->Kn
open PySem.Value renaming none->Dh,ref->Di,type->Fp,bool->Ms,isInt->Mt
open _root_.Ne renaming symm->Dn
open PySem.W renaming typeIs_bytes->DL,boot_heap->Eu,len_bytes->EH,boot_drawn->Hv,boot_toks->Hw,callWith_of->Hx,looks_findIn->HB,plainGet_of->JM,typeIs_bytes->Mj,readsAllW_cons_inv->MF,readsAllW_nil_inv->MG
open _root_.Option renaming map_eq_some_iff->Ek,isNone_iff_eq_none->Es,getD_some->Fo,bind_eq_some_iff->FK,isSome_iff_exists->FL,map_map->Iq,bind_some->LZ,map_some->L1
open PySem.Builtin.Range renaming rangeSize->El,small->GO,rangeFitsLong->M9
open PySem.Str renaming ofString->Et
open _root_.Bool renaming noConfusion->Ey,or_eq_true->Ez,or_eq_false_iff->ET,and_eq_true_iff->Ff,false_eq_true->Fg,not_eq_true'->Ft,or_true->FQ,false_or->Gl,not_eq_false'->Gm,or_false->Gn,and_false->HG,eq_iff_iff->HH,false_and->HI,false_ne_true->HJ,not_not->HK,and_true->IB,or_eq_true_iff->IC,eq_false_iff->J4,not_eq_true->J5,not_true->J6
open _root_.ForInStep renaming yield->Fh
open PyProof.Rows renaming Call_Name->Fu,BoolOp_one->ID,evalArgs_nil3->JK,markedEach_of_false->MA,assign_Tuple->Ng,exec_Assign->Nh
open _root_.Eq renaming symm->Fv
open _root_.Nat.ToInt renaming of_le->FA
open PySem.Obj renaming mapFields->FJ,data_mapFields->Gc,mapSeq->GJ,isFreed_of_fields->Hn,mapBytearray->Ho,data->Jv
open PySem.W.WData renaming bool->FM,int->Hu,layableAll->Mu
open _root_.Array renaming getElem?_eq_some_iff->Gj,mk->Gk,length_toList->HE,isEmpty_iff->IA,foldl->JX,getElem?_eq_getElem->JY,getElem?_eq_none->JZ,mem_toList_iff->J0,toArray_toList->J3
open PySem.Builtin.Int renaming intBits->Go
open PySem.F renaming bm_called->Gp,excBase_Exception->Hp,slot_dict_get->Hq,bm_plain->HM,entry_dict_get->Jz,slot_list_append->JA,args_object_init_2->Ke,bm_typeCall->Kf,entry_object_init->Kg,slot_int_rmul->Kh,args_dict_get_3->L5,args_list_append_2->L6,entry_list_append->L7,plainAttrs_dict->L8,plainAttrs_list->L9,plain_extend_loop->Ma,slot_list_pop->Mb,store_object->Mc,type_dict_get->Md
open PySem.Heap.SameBut renaming update->Gr,refl->Nc
open PySem.NameKind renaming cell->GB,free->Ik
open _root_.List.Mem renaming head->GV
open _root_.List.cons renaming inj->GW,injEq->IY
open PySem.Within renaming cons->Hr,nil->Hs
open PySem.Sem renaming wp_mono->Ht,wp_bind'->Mo
open PySem.Around renaming under_plainId->HD,frames_deeper->JW
open PySem.Builtin.List renaming listExtendWith->HL,listItems->Kb,listLengthHint->Kc,listFitsIndex->M4,listSameRef->M5,listSubscript?->M6,listTooLong->M7,listUpdate->M8
open PySem.W.Looks renaming of_pure->Ij,ld->Jm
open _root_.Prod.mk renaming injEq->Ir
open PySem.Calls renaming spliced_cons->Iv,evalArgs_plain->JL,Name_function_global->Ll,loadGlobal_builtin->Mz
open PySem.Builtin.Bytes renaming buffer?->IE,exported->IF,exportsOf->IG,slotIsOwn->IH,containsIn->J8,decodersThatHold->J9,ownRelease->Ka,byteValue->MX,checkResize->MY,payload->M0,payload?->M1,sameRef->M2,write->M3
open PySem.Code renaming quiet_builtin->II
open PySem.W.FB renaming slot_bytes_getitem->IJ,args_bytes_contains_2->Ki,entry_bytes_contains->Kj,slot_bytes_contains->Kk
open PySem.Heap.Ns renaming of_isNs->IK
open PySem.W.KBw renaming IsBytesIter->IU,pyIter_bytes->KC
open _root_.Prod renaming ext->Jw
open PySem.Expr renaming Call->Jy
open PySem.IsL renaming update->JC
open PySem.BoolOp renaming Or->J7
open PySem.EntryCells renaming newEntry->Kd
open PySem.Heap.Ns1 renaming of_empty->Kl
open _root_.Int.ofNat renaming inj->Ky
open PySem.W.KTBy renaming to_big->KD
open PySem.Keeper renaming boundFrame->KE,frame->KG,machine->KI
open PyProof.Rows.LSm renaming BoolsAre->KJ
open PyProof renaming noPylong_small->L2
open PySem.Challenge renaming pw_pf0241_01->L4,rw_pf0241_01->Ni
open PySem.W.Fast renaming tw10156331382660048174->Mf,tw11892475500146522536->Mg,tw14364793385576792824->Mh,tw6613529449190102663->Mi,te10156331382660048174->Nk,te11892475500146522536->Nl,te14364793385576792824->Nm,te4187177175401517315->Nn,te6613529449190102663->No,tw4187177175401517315->Np
open _root_.Std.Legacy.Range renaming forIn_eq_forIn_range'->Mp
open _root_.String.Pos.Raw renaming mk_le_mk->Mq
open PySem.Builtin.Bytes.exported renaming match_1->MZ
open PySem.Heap.DictOf renaming new->Na
open PySem.Heap.IsSliceOf renaming new->Nb
open PySem.MeetsSeq renaming list_pop_last->Nj
abbrev CG:=@if_pos
abbrev CH:=@congrArg
abbrev CI:=@absurd
abbrev CJ:=@if_neg
abbrev C3:=@decide_eq_true_eq
abbrev C5:=@decide_eq_true
abbrev C9:=@beq_iff_eq
abbrev Do:=@of_decide_eq_true
abbrev Du:=@beq_self_eq_true
abbrev Dx:=@decide_eq_false
abbrev DG:=@or_false
abbrev EF:=@beq_eq_false_iff_ne
abbrev EG:=@beq_false_of_ne
abbrev Fb:=@bne_iff_ne
abbrev Fd:=@if_false
abbrev Fq:=@not_or
abbrev FN:=@decide_eq_false_iff_not
abbrev HA:=@decide_eq_decide
noncomputable section
section
set_option autoImplicit true
set_option bootstrap.genMatcherCode false
@[elab_as_elim] theorem gn{α:Sort _}{P:α->Prop}(a:α)(h:∀x,P x):P a:=h a
theorem q8{G:Prop}(h:∀G':Prop,(G->G')->G'):G:=h G id
@[elab_as_elim] theorem cX{α:Sort _}{P:α->Prop}(a:α)(h:∀x,a=x->P x):P a:=h a rfl
section
variable {A B C D E F:Sort _}{G:Prop}
theorem o_a{p q:Prop}(h:p/\q)(k:p->q->G):G:=k h.1 h.2
theorem o_e{p:A->Prop}(h:∃a,p a)(k:∀a,p a->G):G:=h.elim k
theorem o_aa{p q r:Prop}(h:p/\q/\r)(k:p->q->r->G):G:=o_a h.2 (k h.1)
theorem o_ae{p:Prop}{q:A->Prop}(h:p/\∃a,q a)(k:p->∀a,q a->G):G:=o_e h.2 (k h.1)
theorem o_ea{p q:A->Prop}(h:∃a,p a/\q a)(k:∀a,p a->q a->G):G:=h.elim λx h=>o_a h (k x)
theorem o_ee{p:A->B->Prop}(h:∃a b,p a b)(k:∀a b,p a b->G):G:=h.elim λx h=>o_e h (k x)
theorem o_aaa{p q r s:Prop}(h:p/\q/\r/\s)(k:p->q->r->s->G):G:=o_aa h.2 (k h.1)
theorem o_aae{p q:Prop}{r:A->Prop}(h:p/\q/\∃a,r a)(k:p->q->∀a,r a->G):G:=o_ae h.2 (k h.1)
theorem o_aea{p:Prop}{q r:A->Prop}(h:p/\∃a,q a/\r a)(k:p->∀a,q a->r a->G):G:=o_ea h.2 (k h.1)
theorem o_aee{p:Prop}{q:A->B->Prop}(h:p/\∃a b,q a b)(k:p->∀a b,q a b->G):G:=o_ee h.2 (k h.1)
theorem o_eaa{p q r:A->Prop}(h:∃a,p a/\q a/\r a)(k:∀a,p a->q a->r a->G):G:=h.elim λx h=>o_aa h (k x)
theorem o_eea{p q:A->B->Prop}(h:∃a b,p a b/\q a b)(k:∀a b,p a b->q a b->G):G:=h.elim λx h=>o_ea h (k x)
theorem o_eee{p:A->B->C->Prop}(h:∃a b c,p a b c)(k:∀a b c,p a b c->G):G:=h.elim λx h=>o_ee h (k x)
theorem o_aaaa{p q r s t:Prop}(h:p/\q/\r/\s/\t)(k:p->q->r->s->t->G):G:=o_aaa h.2 (k h.1)
theorem o_aaae{p q r:Prop}{s:A->Prop}(h:p/\q/\r/\∃a,s a)(k:p->q->r->∀a,s a->G):G:=o_aae h.2 (k h.1)
theorem o_aaea{p q:Prop}{r s:A->Prop}(h:p/\q/\∃a,r a/\s a)(k:p->q->∀a,r a->s a->G):G:=o_aea h.2 (k h.1)
theorem o_aaee{p q:Prop}{r:A->B->Prop}(h:p/\q/\∃a b,r a b)(k:p->q->∀a b,r a b->G):G:=o_aee h.2 (k h.1)
theorem o_aeaa{p:Prop}{q r s:A->Prop}(h:p/\∃a,q a/\r a/\s a)(k:p->∀a,q a->r a->s a->G):G:=o_eaa h.2 (k h.1)
theorem o_aeea{p:Prop}{q r:A->B->Prop}(h:p/\∃a b,q a b/\r a b)(k:p->∀a b,q a b->r a b->G):G:=o_eea h.2 (k h.1)
theorem o_aeee{p:Prop}{q:A->B->C->Prop}(h:p/\∃a b c,q a b c)(k:p->∀a b c,q a b c->G):G:=o_eee h.2 (k h.1)
theorem o_eaaa{p q r s:A->Prop}(h:∃a,p a/\q a/\r a/\s a)(k:∀a,p a->q a->r a->s a->G):G:=h.elim λx h=>o_aaa h (k x)
theorem o_eaae{p q:A->Prop}{r:A->B->Prop}(h:∃a,p a/\q a/\∃b,r a b)(k:∀a,p a->q a->∀b,r a b->G):G:=h.elim λx h=>o_aae h (k x)
theorem o_eaea{p:A->Prop}{q r:A->B->Prop}(h:∃a,p a/\∃b,q a b/\r a b)(k:∀a,p a->∀b,q a b->r a b->G):G:=h.elim λx h=>o_aea h (k x)
theorem o_eeaa{p q r:A->B->Prop}(h:∃a b,p a b/\q a b/\r a b)(k:∀a b,p a b->q a b->r a b->G):G:=h.elim λx h=>o_eaa h (k x)
theorem o_eeea{p q:A->B->C->Prop}(h:∃a b c,p a b c/\q a b c)(k:∀a b c,p a b c->q a b c->G):G:=h.elim λx h=>o_eea h (k x)
theorem o_eeee{p:A->B->C->D->Prop}(h:∃a b c d,p a b c d)(k:∀a b c d,p a b c d->G):G:=h.elim λx h=>o_eee h (k x)
theorem o_aaaaa{p q r s t u:Prop}(h:p/\q/\r/\s/\t/\u)(k:p->q->r->s->t->u->G):G:=o_aaaa h.2 (k h.1)
theorem o_aaaae{p q r s:Prop}{t:A->Prop}(h:p/\q/\r/\s/\∃a,t a)(k:p->q->r->s->∀a,t a->G):G:=o_aaae h.2 (k h.1)
theorem o_aaeaa{p q:Prop}{r s t:A->Prop}(h:p/\q/\∃a,r a/\s a/\t a)(k:p->q->∀a,r a->s a->t a->G):G:=o_aeaa h.2 (k h.1)
theorem o_aaeea{p q:Prop}{r s:A->B->Prop}(h:p/\q/\∃a b,r a b/\s a b)(k:p->q->∀a b,r a b->s a b->G):G:=o_aeea h.2 (k h.1)
theorem o_aeaaa{p:Prop}{q r s t:A->Prop}(h:p/\∃a,q a/\r a/\s a/\t a)(k:p->∀a,q a->r a->s a->t a->G):G:=o_eaaa h.2 (k h.1)
theorem o_aeeaa{p:Prop}{q r s:A->B->Prop}(h:p/\∃a b,q a b/\r a b/\s a b)(k:p->∀a b,q a b->r a b->s a b->G):G:=o_eeaa h.2 (k h.1)
theorem o_aeeee{p:Prop}{q:A->B->C->D->Prop}(h:p/\∃a b c d,q a b c d)(k:p->∀a b c d,q a b c d->G):G:=o_eeee h.2 (k h.1)
theorem o_eaaaa{p q r s t:A->Prop}(h:∃a,p a/\q a/\r a/\s a/\t a)(k:∀a,p a->q a->r a->s a->t a->G):G:=h.elim λx h=>o_aaaa h (k x)
theorem o_eaaee{p q:A->Prop}{r:A->B->C->Prop}(h:∃a,p a/\q a/\∃b c,r a b c)(k:∀a,p a->q a->∀b c,r a b c->G):G:=h.elim λx h=>o_aaee h (k x)
theorem o_eaeaa{p:A->Prop}{q r s:A->B->Prop}(h:∃a,p a/\∃b,q a b/\r a b/\s a b)(k:∀a,p a->∀b,q a b->r a b->s a b->G):G:=h.elim λx h=>o_aeaa h (k x)
theorem o_eaeea{p:A->Prop}{q r:A->B->C->Prop}(h:∃a,p a/\∃b c,q a b c/\r a b c)(k:∀a,p a->∀b c,q a b c->r a b c->G):G:=h.elim λx h=>o_aeea h (k x)
theorem o_eaeee{p:A->Prop}{q:A->B->C->D->Prop}(h:∃a,p a/\∃b c d,q a b c d)(k:∀a,p a->∀b c d,q a b c d->G):G:=h.elim λx h=>o_aeee h (k x)
theorem o_eeaaa{p q r s:A->B->Prop}(h:∃a b,p a b/\q a b/\r a b/\s a b)(k:∀a b,p a b->q a b->r a b->s a b->G):G:=h.elim λx h=>o_eaaa h (k x)
theorem o_eeaae{p q:A->B->Prop}{r:A->B->C->Prop}(h:∃a b,p a b/\q a b/\∃c,r a b c)(k:∀a b,p a b->q a b->∀c,r a b c->G):G:=h.elim λx h=>o_eaae h (k x)
theorem o_eeaea{p:A->B->Prop}{q r:A->B->C->Prop}(h:∃a b,p a b/\∃c,q a b c/\r a b c)(k:∀a b,p a b->∀c,q a b c->r a b c->G):G:=h.elim λx h=>o_eaea h (k x)
theorem o_eeeaa{p q r:A->B->C->Prop}(h:∃a b c,p a b c/\q a b c/\r a b c)(k:∀a b c,p a b c->q a b c->r a b c->G):G:=h.elim λx h=>o_eeaa h (k x)
theorem o_eeeea{p q:A->B->C->D->Prop}(h:∃a b c d,p a b c d/\q a b c d)(k:∀a b c d,p a b c d->q a b c d->G):G:=h.elim λx h=>o_eeea h (k x)
theorem o_eeeee{p:A->B->C->D->E->Prop}(h:∃a b c d e,p a b c d e)(k:∀a b c d e,p a b c d e->G):G:=h.elim λx h=>o_eeee h (k x)
theorem o_aaaaaa{p q r s t u v:Prop}(h:p/\q/\r/\s/\t/\u/\v)(k:p->q->r->s->t->u->v->G):G:=o_aaaaa h.2 (k h.1)
theorem o_aaaeea{p q r:Prop}{s t:A->B->Prop}(h:p/\q/\r/\∃a b,s a b/\t a b)(k:p->q->r->∀a b,s a b->t a b->G):G:=o_aaeea h.2 (k h.1)
theorem o_aeeaaa{p:Prop}{q r s t:A->B->Prop}(h:p/\∃a b,q a b/\r a b/\s a b/\t a b)(k:p->∀a b,q a b->r a b->s a b->t a b->G):G:=o_eeaaa h.2 (k h.1)
theorem o_aeeaae{p:Prop}{q r:A->B->Prop}{s:A->B->C->Prop}(h:p/\∃a b,q a b/\r a b/\∃c,s a b c)(k:p->∀a b,q a b->r a b->∀c,s a b c->G):G:=o_eeaae h.2 (k h.1)
theorem o_aeeeee{p:Prop}{q:A->B->C->D->E->Prop}(h:p/\∃a b c d e,q a b c d e)(k:p->∀a b c d e,q a b c d e->G):G:=o_eeeee h.2 (k h.1)
theorem o_eaaaaa{p q r s t u:A->Prop}(h:∃a,p a/\q a/\r a/\s a/\t a/\u a)(k:∀a,p a->q a->r a->s a->t a->u a->G):G:=h.elim λx h=>o_aaaaa h (k x)
theorem o_eaaeaa{p q:A->Prop}{r s t:A->B->Prop}(h:∃a,p a/\q a/\∃b,r a b/\s a b/\t a b)(k:∀a,p a->q a->∀b,r a b->s a b->t a b->G):G:=h.elim λx h=>o_aaeaa h (k x)
theorem o_eaeeee{p:A->Prop}{q:A->B->C->D->E->Prop}(h:∃a,p a/\∃b c d e,q a b c d e)(k:∀a,p a->∀b c d e,q a b c d e->G):G:=h.elim λx h=>o_aeeee h (k x)
theorem o_eeaaaa{p q r s t:A->B->Prop}(h:∃a b,p a b/\q a b/\r a b/\s a b/\t a b)(k:∀a b,p a b->q a b->r a b->s a b->t a b->G):G:=h.elim λx h=>o_eaaaa h (k x)
theorem o_eeaaee{p q:A->B->Prop}{r:A->B->C->D->Prop}(h:∃a b,p a b/\q a b/\∃c d,r a b c d)(k:∀a b,p a b->q a b->∀c d,r a b c d->G):G:=h.elim λx h=>o_eaaee h (k x)
theorem o_eeaeaa{p:A->B->Prop}{q r s:A->B->C->Prop}(h:∃a b,p a b/\∃c,q a b c/\r a b c/\s a b c)(k:∀a b,p a b->∀c,q a b c->r a b c->s a b c->G):G:=h.elim λx h=>o_eaeaa h (k x)
theorem o_eeaeea{p:A->B->Prop}{q r:A->B->C->D->Prop}(h:∃a b,p a b/\∃c d,q a b c d/\r a b c d)(k:∀a b,p a b->∀c d,q a b c d->r a b c d->G):G:=h.elim λx h=>o_eaeea h (k x)
theorem o_eeaeee{p:A->B->Prop}{q:A->B->C->D->E->Prop}(h:∃a b,p a b/\∃c d e,q a b c d e)(k:∀a b,p a b->∀c d e,q a b c d e->G):G:=h.elim λx h=>o_eaeee h (k x)
theorem o_eeeaaa{p q r s:A->B->C->Prop}(h:∃a b c,p a b c/\q a b c/\r a b c/\s a b c)(k:∀a b c,p a b c->q a b c->r a b c->s a b c->G):G:=h.elim λx h=>o_eeaaa h (k x)
theorem o_eeeeaa{p q r:A->B->C->D->Prop}(h:∃a b c d,p a b c d/\q a b c d/\r a b c d)(k:∀a b c d,p a b c d->q a b c d->r a b c d->G):G:=h.elim λx h=>o_eeeaa h (k x)
theorem o_eeeeea{p q:A->B->C->D->E->Prop}(h:∃a b c d e,p a b c d e/\q a b c d e)(k:∀a b c d e,p a b c d e->q a b c d e->G):G:=h.elim λx h=>o_eeeea h (k x)
theorem o_eeeeee{p:A->B->C->D->E->F->Prop}(h:∃a b c d e f,p a b c d e f)(k:∀a b c d e f,p a b c d e f->G):G:=h.elim λx h=>o_eeeee h (k x)
theorem r_a{p q:Prop}(k:p->q->G)(h:p/\q):G:=o_a h k
theorem r_e{p:A->Prop}(k:∀a,p a->G)(h:∃a,p a):G:=o_e h k
theorem r_aa{p q r:Prop}(k:p->q->r->G)(h:p/\q/\r):G:=o_aa h k
theorem r_ae{p:Prop}{q:A->Prop}(k:p->∀a,q a->G)(h:p/\∃a,q a):G:=o_ae h k
theorem r_ea{p q:A->Prop}(k:∀a,p a->q a->G)(h:∃a,p a/\q a):G:=o_ea h k
theorem r_aaa{p q r s:Prop}(k:p->q->r->s->G)(h:p/\q/\r/\s):G:=o_aaa h k
theorem r_aae{p q:Prop}{r:A->Prop}(k:p->q->∀a,r a->G)(h:p/\q/\∃a,r a):G:=o_aae h k
theorem r_aee{p:Prop}{q:A->B->Prop}(k:p->∀a b,q a b->G)(h:p/\∃a b,q a b):G:=o_aee h k
theorem r_eaa{p q r:A->Prop}(k:∀a,p a->q a->r a->G)(h:∃a,p a/\q a/\r a):G:=o_eaa h k
theorem r_aaaa{p q r s t:Prop}(k:p->q->r->s->t->G)(h:p/\q/\r/\s/\t):G:=o_aaaa h k
theorem r_aaee{p q:Prop}{r:A->B->Prop}(k:p->q->∀a b,r a b->G)(h:p/\q/\∃a b,r a b):G:=o_aaee h k
theorem r_aeee{p:Prop}{q:A->B->C->Prop}(k:p->∀a b c,q a b c->G)(h:p/\∃a b c,q a b c):G:=o_aeee h k
theorem r_eaae{p q:A->Prop}{r:A->B->Prop}(k:∀a,p a->q a->∀b,r a b->G)(h:∃a,p a/\q a/\∃b,r a b):G:=o_eaae h k
theorem r_eaea{p:A->Prop}{q r:A->B->Prop}(k:∀a,p a->∀b,q a b->r a b->G)(h:∃a,p a/\∃b,q a b/\r a b):G:=o_eaea h k
theorem r_eeaa{p q r:A->B->Prop}(k:∀a b,p a b->q a b->r a b->G)(h:∃a b,p a b/\q a b/\r a b):G:=o_eeaa h k
theorem r_eeea{p q:A->B->C->Prop}(k:∀a b c,p a b c->q a b c->G)(h:∃a b c,p a b c/\q a b c):G:=o_eeea h k
theorem r_aaaaa{p q r s t u:Prop}(k:p->q->r->s->t->u->G)(h:p/\q/\r/\s/\t/\u):G:=o_aaaaa h k
theorem r_aaaae{p q r s:Prop}{t:A->Prop}(k:p->q->r->s->∀a,t a->G)(h:p/\q/\r/\s/\∃a,t a):G:=o_aaaae h k
theorem r_eaaaa{p q r s t:A->Prop}(k:∀a,p a->q a->r a->s a->t a->G)(h:∃a,p a/\q a/\r a/\s a/\t a):G:=o_eaaaa h k
theorem r_eeeea{p q:A->B->C->D->Prop}(k:∀a b c d,p a b c d->q a b c d->G)(h:∃a b c d,p a b c d/\q a b c d):G:=o_eeeea h k
theorem r_aaaaaa{p q r s t u v:Prop}(k:p->q->r->s->t->u->v->G)(h:p/\q/\r/\s/\t/\u/\v):G:=o_aaaaaa h k
theorem r_aeeaaa{p:Prop}{q r s t:A->B->Prop}(k:p->∀a b,q a b->r a b->s a b->t a b->G)(h:p/\∃a b,q a b/\r a b/\s a b/\t a b):G:=o_aeeaaa h k
theorem r_aeeaae{p:Prop}{q r:A->B->Prop}{s:A->B->C->Prop}(k:p->∀a b,q a b->r a b->∀c,s a b c->G)(h:p/\∃a b,q a b/\r a b/\∃c,s a b c):G:=o_aeeaae h k
theorem r_aeeeee{p:Prop}{q:A->B->C->D->E->Prop}(k:p->∀a b c d e,q a b c d e->G)(h:p/\∃a b c d e,q a b c d e):G:=o_aeeeee h k
theorem r_eaaaaa{p q r s t u:A->Prop}(k:∀a,p a->q a->r a->s a->t a->u a->G)(h:∃a,p a/\q a/\r a/\s a/\t a/\u a):G:=o_eaaaaa h k
theorem r_eeaaaa{p q r s t:A->B->Prop}(k:∀a b,p a b->q a b->r a b->s a b->t a b->G)(h:∃a b,p a b/\q a b/\r a b/\s a b/\t a b):G:=o_eeaaaa h k
theorem r_eeeaaa{p q r s:A->B->C->Prop}(k:∀a b c,p a b c->q a b c->r a b c->s a b c->G)(h:∃a b c,p a b c/\q a b c/\r a b c/\s a b c):G:=o_eeeaaa h k
theorem r_eeeeaa{p q r:A->B->C->D->Prop}(k:∀a b c d,p a b c d->q a b c d->r a b c d->G)(h:∃a b c d,p a b c d/\q a b c d/\r a b c d):G:=o_eeeeaa h k
theorem r_eeeeea{p q:A->B->C->D->E->Prop}(k:∀a b c d e,p a b c d e->q a b c d e->G)(h:∃a b c d e,p a b c d e/\q a b c d e):G:=o_eeeeea h k
theorem r_eeeeee{p:A->B->C->D->E->F->Prop}(k:∀a b c d e f,p a b c d e f->G)(h:∃a b c d e f,p a b c d e f):G:=o_eeeeee h k
theorem bE{p q:Prop}(h0:p)(h1:q):p/\q:=⟨h0,h1⟩
theorem i_e{p:A->Prop}(a:A)(h0:p a):∃a,p a:=⟨a,h0⟩
theorem bT{p q r:Prop}(h0:p)(h1:q)(h2:r):p/\q/\r:=⟨h0,h1,h2⟩
theorem ke{p:Prop}{q:A->Prop}(h0:p)(a:A)(h1:q a):p/\∃a,q a:=⟨h0,a,h1⟩
theorem ae{p q:A->Prop}(a:A)(h0:p a)(h1:q a):∃a,p a/\q a:=⟨a,h0,h1⟩
theorem cK{p:A->B->Prop}(a:A)(b:B)(h0:p a b):∃a b,p a b:=⟨a,b,h0⟩
theorem bY{p q r s:Prop}(h0:p)(h1:q)(h2:r)(h3:s):p/\q/\r/\s:=⟨h0,h1,h2,h3⟩
theorem iO{p q:Prop}{r:A->Prop}(h0:p)(h1:q)(a:A)(h2:r a):p/\q/\∃a,r a:=⟨h0,h1,a,h2⟩
theorem jv{p:Prop}{q r:A->Prop}(h0:p)(a:A)(h1:q a)(h2:r a):p/\∃a,q a/\r a:=⟨h0,a,h1,h2⟩
theorem nq{p:Prop}{q:A->B->Prop}(h0:p)(a:A)(b:B)(h1:q a b):p/\∃a b,q a b:=⟨h0,a,b,h1⟩
theorem aI{p q r:A->Prop}(a:A)(h0:p a)(h1:q a)(h2:r a):∃a,p a/\q a/\r a:=⟨a,h0,h1,h2⟩
theorem nz{p:A->Prop}{q:A->B->Prop}(a:A)(h0:p a)(b:B)(h1:q a b):∃a,p a/\∃b,q a b:=⟨a,h0,b,h1⟩
theorem bR{p q:A->B->Prop}(a:A)(b:B)(h0:p a b)(h1:q a b):∃a b,p a b/\q a b:=⟨a,b,h0,h1⟩
theorem nG{p:A->B->C->Prop}(a:A)(b:B)(c:C)(h0:p a b c):∃a b c,p a b c:=⟨a,b,c,h0⟩
theorem gM{p q r s t:Prop}(h0:p)(h1:q)(h2:r)(h3:s)(h4:t):p/\q/\r/\s/\t:=⟨h0,h1,h2,h3,h4⟩
theorem ft{p q:Prop}{r s:A->Prop}(h0:p)(h1:q)(a:A)(h2:r a)(h3:s a):p/\q/\∃a,r a/\s a:=⟨h0,h1,a,h2,h3⟩
theorem aip{p q:Prop}{r:A->B->Prop}(h0:p)(h1:q)(a:A)(b:B)(h2:r a b):p/\q/\∃a b,r a b:=⟨h0,h1,a,b,h2⟩
theorem ny{p:Prop}{q:A->B->C->Prop}(h0:p)(a:A)(b:B)(c:C)(h1:q a b c):p/\∃a b c,q a b c:=⟨h0,a,b,c,h1⟩
theorem cY{p q r s:A->Prop}(a:A)(h0:p a)(h1:q a)(h2:r a)(h3:s a):∃a,p a/\q a/\r a/\s a:=⟨a,h0,h1,h2,h3⟩
theorem lU{p q:A->Prop}{r:A->B->Prop}(a:A)(h0:p a)(h1:q a)(b:B)(h2:r a b):∃a,p a/\q a/\∃b,r a b:=⟨a,h0,h1,b,h2⟩
theorem ax{p q r:A->B->Prop}(a:A)(b:B)(h0:p a b)(h1:q a b)(h2:r a b):∃a b,p a b/\q a b/\r a b:=⟨a,b,h0,h1,h2⟩
theorem gc{p q:A->B->C->Prop}(a:A)(b:B)(c:C)(h0:p a b c)(h1:q a b c):∃a b c,p a b c/\q a b c:=⟨a,b,c,h0,h1⟩
theorem iP{p:A->B->C->D->Prop}(a:A)(b:B)(c:C)(d:D)(h0:p a b c d):∃a b c d,p a b c d:=⟨a,b,c,d,h0⟩
theorem gN{p q r s t u:Prop}(h0:p)(h1:q)(h2:r)(h3:s)(h4:t)(h5:u):p/\q/\r/\s/\t/\u:=⟨h0,h1,h2,h3,h4,h5⟩
theorem aiq{p q:Prop}{r s:A->B->Prop}(h0:p)(h1:q)(a:A)(b:B)(h2:r a b)(h3:s a b):p/\q/\∃a b,r a b/\s a b:=⟨h0,h1,a,b,h2,h3⟩
theorem acd{p:Prop}{q r s t:A->Prop}(h0:p)(a:A)(h1:q a)(h2:r a)(h3:s a)(h4:t a):p/\∃a,q a/\r a/\s a/\t a:=⟨h0,a,h1,h2,h3,h4⟩
theorem air{p:Prop}{q r:A->Prop}{s:A->B->Prop}(h0:p)(a:A)(h1:q a)(h2:r a)(b:B)(h3:s a b):p/\∃a,q a/\r a/\∃b,s a b:=⟨h0,a,h1,h2,b,h3⟩
theorem jw{p:Prop}{q r s:A->B->Prop}(h0:p)(a:A)(b:B)(h1:q a b)(h2:r a b)(h3:s a b):p/\∃a b,q a b/\r a b/\s a b:=⟨h0,a,b,h1,h2,h3⟩
theorem kg{p q r s t:A->Prop}(a:A)(h0:p a)(h1:q a)(h2:r a)(h3:s a)(h4:t a):∃a,p a/\q a/\r a/\s a/\t a:=⟨a,h0,h1,h2,h3,h4⟩
theorem jx{p q r s:A->B->Prop}(a:A)(b:B)(h0:p a b)(h1:q a b)(h2:r a b)(h3:s a b):∃a b,p a b/\q a b/\r a b/\s a b:=⟨a,b,h0,h1,h2,h3⟩
theorem aiw{p:A->B->Prop}{q r:A->B->C->Prop}(a:A)(b:B)(h0:p a b)(c:C)(h1:q a b c)(h2:r a b c):∃a b,p a b/\∃c,q a b c/\r a b c:=⟨a,b,h0,c,h1,h2⟩
theorem bZ{p q r:A->B->C->Prop}(a:A)(b:B)(c:C)(h0:p a b c)(h1:q a b c)(h2:r a b c):∃a b c,p a b c/\q a b c/\r a b c:=⟨a,b,c,h0,h1,h2⟩
theorem nH{p q:A->B->C->D->Prop}(a:A)(b:B)(c:C)(d:D)(h0:p a b c d)(h1:q a b c d):∃a b c d,p a b c d/\q a b c d:=⟨a,b,c,d,h0,h1⟩
theorem dv{p q r s t u v:Prop}(h0:p)(h1:q)(h2:r)(h3:s)(h4:t)(h5:u)(h6:v):p/\q/\r/\s/\t/\u/\v:=⟨h0,h1,h2,h3,h4,h5,h6⟩
theorem ain{p q r s t:Prop}{u:A->Prop}(h0:p)(h1:q)(h2:r)(h3:s)(h4:t)(a:A)(h5:u a):p/\q/\r/\s/\t/\∃a,u a:=⟨h0,h1,h2,h3,h4,a,h5⟩
theorem aio{p q r:Prop}{s t:A->B->Prop}(h0:p)(h1:q)(h2:r)(a:A)(b:B)(h3:s a b)(h4:t a b):p/\q/\r/\∃a b,s a b/\t a b:=⟨h0,h1,h2,a,b,h3,h4⟩
theorem nj{p q:Prop}{r s:A->B->C->Prop}(h0:p)(h1:q)(a:A)(b:B)(c:C)(h2:r a b c)(h3:s a b c):p/\q/\∃a b c,r a b c/\s a b c:=⟨h0,h1,a,b,c,h2,h3⟩
theorem rb{p:Prop}{q:A->Prop}{r s:A->B->C->Prop}(h0:p)(a:A)(h1:q a)(b:B)(c:C)(h2:r a b c)(h3:s a b c):p/\∃a,q a/\∃b c,r a b c/\s a b c:=⟨h0,a,h1,b,c,h2,h3⟩
theorem eH{p:Prop}{q r s t:A->B->Prop}(h0:p)(a:A)(b:B)(h1:q a b)(h2:r a b)(h3:s a b)(h4:t a b):p/\∃a b,q a b/\r a b/\s a b/\t a b:=⟨h0,a,b,h1,h2,h3,h4⟩
theorem gb{p q r s t u:A->Prop}(a:A)(h0:p a)(h1:q a)(h2:r a)(h3:s a)(h4:t a)(h5:u a):∃a,p a/\q a/\r a/\s a/\t a/\u a:=⟨a,h0,h1,h2,h3,h4,h5⟩
theorem ait{p q:A->Prop}{r s t:A->B->Prop}(a:A)(h0:p a)(h1:q a)(b:B)(h2:r a b)(h3:s a b)(h4:t a b):∃a,p a/\q a/\∃b,r a b/\s a b/\t a b:=⟨a,h0,h1,b,h2,h3,h4⟩
theorem nF{p:A->Prop}{q r s:A->B->C->Prop}(a:A)(h0:p a)(b:B)(c:C)(h1:q a b c)(h2:r a b c)(h3:s a b c):∃a,p a/\∃b c,q a b c/\r a b c/\s a b c:=⟨a,h0,b,c,h1,h2,h3⟩
theorem ace{p:A->Prop}{q:A->B->C->D->E->Prop}(a:A)(h0:p a)(b:B)(c:C)(d:D)(e:E)(h1:q a b c d e):∃a,p a/\∃b c d e,q a b c d e:=⟨a,h0,b,c,d,e,h1⟩
theorem dS{p q r s t:A->B->Prop}(a:A)(b:B)(h0:p a b)(h1:q a b)(h2:r a b)(h3:s a b)(h4:t a b):∃a b,p a b/\q a b/\r a b/\s a b/\t a b:=⟨a,b,h0,h1,h2,h3,h4⟩
theorem aiu{p q r:A->B->Prop}{s:A->B->C->Prop}(a:A)(b:B)(h0:p a b)(h1:q a b)(h2:r a b)(c:C)(h3:s a b c):∃a b,p a b/\q a b/\r a b/\∃c,s a b c:=⟨a,b,h0,h1,h2,c,h3⟩
theorem aiv{p q:A->B->Prop}{r:A->B->C->D->Prop}(a:A)(b:B)(h0:p a b)(h1:q a b)(c:C)(d:D)(h2:r a b c d):∃a b,p a b/\q a b/\∃c d,r a b c d:=⟨a,b,h0,h1,c,d,h2⟩
theorem aix{p:A->B->Prop}{q:A->B->C->D->E->Prop}(a:A)(b:B)(h0:p a b)(c:C)(d:D)(e:E)(h1:q a b c d e):∃a b,p a b/\∃c d e,q a b c d e:=⟨a,b,h0,c,d,e,h1⟩
theorem ce{p q r s:A->B->C->Prop}(a:A)(b:B)(c:C)(h0:p a b c)(h1:q a b c)(h2:r a b c)(h3:s a b c):∃a b c,p a b c/\q a b c/\r a b c/\s a b c:=⟨a,b,c,h0,h1,h2,h3⟩
theorem ef{p q r:A->B->C->D->Prop}(a:A)(b:B)(c:C)(d:D)(h0:p a b c d)(h1:q a b c d)(h2:r a b c d):∃a b c d,p a b c d/\q a b c d/\r a b c d:=⟨a,b,c,d,h0,h1,h2⟩
theorem iQ{p q:A->B->C->D->E->Prop}(a:A)(b:B)(c:C)(d:D)(e:E)(h0:p a b c d e)(h1:q a b c d e):∃a b c d e,p a b c d e/\q a b c d e:=⟨a,b,c,d,e,h0,h1⟩
theorem dT{p:A->B->C->D->E->F->Prop}(a:A)(b:B)(c:C)(d:D)(e:E)(f:F)(h0:p a b c d e f):∃a b c d e f,p a b c d e f:=⟨a,b,c,d,e,f,h0⟩
end
theorem ap7{a b c:Nat}(h:a<b+c)(k:0<c):a-b<c:=(LI a b).elim (λh=>by rw[GG (CN h)];exact k) λg=>(Gb g).mpr h
theorem aef(k:Nat):(k+1)%2=1↔k%2=0:=by rcases LK k with h |h<;>simp[Lp,h]
theorem aeg(k:Nat):(k+1)%2=0↔k%2=1:=by rcases LK k with h |h<;>simp[Lp,h]
variable {a b c d f g i j k l:Nat}
theorem om0(h0:¬a<=63):63<(a:Int):=(@C2 63 a).mpr (EY h0)
theorem om1(h0:a<=63):a<=16777216:=by lia
theorem om2(h0:a=4):a<=b+4:=Nat.le_trans (CZ h0) (EM 4 b)
theorem om6(h0:0<a):b*(c+1)+(c+1)=c+1-1+b*(c+1)+1:=CH (·+1) (En _ c)
theorem akk(h0:a<b)(h1:c*b+b<=d*b):f*d*b+a+c*b<f*d*b+a+d*b:=Fk (Nat.lt_of_lt_of_le (Hi (Nat.lt_of_le_of_lt (DY a) h0)) h1) _
theorem akp:a*b*c+d+f*c=a*b*c+f*c+d:=Jn (a*b*c) d (f*c)
theorem akv(h0:¬a<b):b<=a:=Dj h0
theorem akB(h0:0<a)(h1:a<1000000000):0<(a:Int):=GS.mpr h0
theorem akG(h0:0<a)(h1:a<1000000000):(a:Int)<1099511627776:=(@C2 a 1099511627776).mpr (CM h1 (by decide))
theorem akN(h0:a<=100)(h1:0<a):a<=DB ((a:Int)-0):=Nat.le_refl a
theorem mc(h0:a<=100):a<1000000000:=by lia
theorem me(h0:a<=100):a<=DB ((a:Int)-0):=by rw[KA];exact Nat.le_refl _
theorem alv(h0:a<=100):a<18446744073709551616:=by lia
theorem adn(h0:a<=100)(h1:0<a):a<18446744073709551616:=by lia
theorem alZ(h0:0<a/\a<=4):a<=100:=by lia
theorem al6(h0:a<=100):a<100000:=by lia
theorem amd:a+(b+(c+d))=a+b+c+d:=by lia
theorem amf(h0:1<=a/\a<=100)(h1:1<=b/\b<=100):(1<=(a:Int)/\(a:Int)<=65535)/\1<=(b:Int)/\(b:Int)<=65535:=⟨⟨(@DP 1 a).mpr h0.1,(@DP a 65535).mpr (Nat.le_trans h0.2 (by decide))⟩,(@DP 1 b).mpr h1.1,(@DP b 65535).mpr (Nat.le_trans h1.2 (by decide))⟩
theorem aml:2+(a+(b+1))=2+a+1+b:=by lia
theorem ado(h0:1<=a/\a<=100):a<=100:=by lia
theorem ads(h0:1<=a/\a<=100):a<100000:=by lia
theorem amV(h0:a=b*c*d*f)(h1:g<1+a):2+(i+min g j)<2+i+1+a:=by rw[<-CX,CX (2+i)];exact Fk (Nat.lt_of_le_of_lt (F9 ..) h1) _
theorem am3(h0:a<2)(h1:min 2 a=2):False:=Nat.not_le.mpr h0 (Nat.le_trans (CZ h1.symm) (DV 2 a))
theorem am6(h0:0<a)(h1:a<1000000000):(a:Int)<1073741824:=by lia
theorem anl(h0:a+1+1+1<=2):False:=by lia
theorem ady(h0:a<b):0<=(a:Int):=DO a
theorem anm(h0:a<=8):(a:Int)<9:=(@C2 a 9).mpr (Eo h0)
theorem ano(h0:¬a<=8):¬(a:Int)<9:=λh=>h0 (Eh ((@C2 a 9).mp h))
theorem anp(h0:a+b+c<=d):a<=d:=Nat.le_trans (Nat.le_trans (Nat.le_add_right a b) (Nat.le_add_right _ c)) h0
theorem anq(h0:a<b):c+a<c+b:=Fk h0 c
theorem anr(h0:a<b+c)(h1:d+b+c<=f)(h2:f<d+a):g+1<1:=CI (Nat.lt_of_le_of_lt h1 (CM h2 (Fk h0 d))) (CX d b c▸CS _)
theorem ans(h0:a+1<1):b<c+d:=by lia
theorem ant(h0:a<b+c):d+a<d+b+c:=CX d b c▸Fk h0 d
theorem anu(h0:a<b+c)(h1:d+b+c<=f)(h2:f<d+a):g+1<0:=CI (Nat.lt_of_le_of_lt h1 (CM h2 (Fk h0 d))) (CX d b c▸CS _)
theorem anv(h0:a+1<0):b<c+d:=by lia
theorem anw(h0:¬a<b+c):d+b+c+(a-(b+c))=d+a:=by rw[CX d,CX,EX (Dj h0)]
theorem anx(h0:0<a)(h1:¬b<c+a):d+c<d+b:=Fk (Nat.lt_of_lt_of_le (Hi h0) (Dj h1)) d
theorem anz(h0:0<a)(h1:(a-1)%2=0):(a+1-1)%2=1:=by cases a with |zero=>cases h0 |succ k=>exact(aef k).2 h1
theorem anA(h0:0<a)(h1:(a-1)%2=1):(a+1-1)%2=0:=by cases a with |zero=>cases h0 |succ k=>exact(aeg k).2 h1
theorem anB(h0:¬a<b+c)(h1:d+a<d+b+c):False:=h0 (LG (CX d b c▸h1))
theorem anC(h0:(a+1)%2=1):(a+1-1)%2=0:=(aef a).1 h0
theorem anD(h0:(a+1)%2=0):(a+1-1)%2=1:=(aeg a).1 h0
theorem anE:0<=-(1:Int)+(a+1:Int):=by rw[HO];exact DZ (DO a) (HP (IP (a:Int) 1).symm)
theorem anF:DB (-(1:Int)+(a+1:Int))=a:=by rw[HO];exact CH DB (IP (a:Int) 1)
theorem anG:(a:Int)<2↔a<2:=@C2 a 2
theorem anH(h0:a<1000)(h1:b=a)(h2:c<=a):c<=16777216:=by lia
theorem anI:a+b+(c+(d+f))=a+b+c+(d+f):=Fv (CX (a+b) c (d+f))
theorem anJ:a+b+c+d=a+(b+c+d):=by lia
theorem anK(h0:a<=20)(h1:b<=16)(h2:c<=36*d):c+(b+a)<=36*(d+1):=(C7 h2 (C7 h1 h0):_<=36*d+36)
theorem anL(h0:a<=2*b)(h1:c<=2):c+a<=2*(b+1):=En a c▸(C7 h0 h1:_<=2*b+2)
theorem anM(h0:a<=10)(h1:b=a+1)(h2:c<b)(h3:d<f)(h4:g=i+min d f)(h5:i<=2*min c b)(h6:f<=2):g<=1000:=h4▸Nat.le_trans (C7 (Nat.le_trans h5 (DW 2 (Nat.le_trans (DV c b) (Nat.le_trans (CZ h1) (EE h0))))) (Nat.le_trans (DV d f) h6)) (by decide)
theorem anN:a≠a+2:=by lia
theorem anO(h0:a<b):a≠b+2:=by lia
theorem ac4(h0:a<b):a≠b+1:=by lia
theorem akl(h0:a=b+1)(h1:c=d)(h2:d<=2*a):c<=2*(b+1):=by rw[h1,<-h0];exact h2
theorem akm(h0:1<=0/\0<=4):False:=by lia
theorem akn(h0:1<=a+1+1+1+1+1/\a+1+1+1+1+1<=4):False:=by lia
theorem ako(h0:a+(b+1)<=900):a+1+b<=900:=Nat.le_trans (CZ (Hm a b)) h0
theorem ac5(h0:a<=5):0+a<=900:=by lia
theorem rM(h0:a+1+1+1+1<4):False:=by lia
theorem fy(h0:1<=a/\a<=3):a<=4:=by lia
theorem gT(h0:1<=a/\a<=3):a<=100:=by lia
theorem akq(h0:a<=5):a-b+min b a<=5:=by rw[LJ,LS];exact h0
theorem ac6(h0:1<=a/\a<=4):0<a:=by lia
theorem akr(h0:a<=5/\0<a):a<1000000000:=by lia
theorem aks(h0:a<=5/\0<a)(h1:b<a):a-b+min b a<10000000:=by rw[LJ,LS];exact Nat.lt_of_le_of_lt h0.1 (by decide)
theorem akt(h0:a<=b)(h1:b<c)(h2:c<=d):a<=d+f+g:=Nat.le_trans (Nat.le_trans h0 (Nat.le_trans (CN h1) h2)) (Nat.le_trans (Nat.le_add_right _ f) (Nat.le_add_right _ g))
theorem aku(h0:a<3):0<(a:Int)↔0<a:=@C2 0 a
theorem ac7(h0:a<=3):a<1000000000:=by lia
theorem ac8(h0:a<=3):a<=DB ((a:Int)-0):=Nat.le_refl a
theorem ac9(h0:a<=16):a<=1000:=by lia
theorem akw(h0:a<=3)(h1:b=a):b<=16777216:=by lia
theorem akx(h0:a=b)(h1:c=b)(h2:d<a):d<c:=by rw[h1,<-h0];exact h2
theorem aky(h0:a<=3)(h1:b=a)(h2:c=a):c<=16777216:=by lia
theorem akz(h0:a=b)(h1:c=b):c=a:=by lia
theorem akA(h0:a+1+1+1<3):False:=by lia
theorem ada(h0:a<3):1<=1+a/\1+a<=3:=⟨Nat.le_add_right ..,En 1 a▸h0⟩
theorem akC(h0:1<=a/\a<=4):a<1000000000:=by lia
theorem akD:a<=DB ((a:Int)-0):=Nat.le_refl a
theorem akE:a≠a+1:=Nat.ne_add_one a
theorem akF(h0:a<1000)(h1:b=a)(h2:c=a):a<=16777216:=by lia
theorem rN(h0:a<=1000):0<=(a:Int):=DO a
theorem akH(h0:2<=a/\a<=16)(h1:(a:Int)<2):False:=Ee.mpr ((@DP 2 a).mpr h0.1) h1
theorem akI(h0:2<=a/\a<=16)(h1:16<(a:Int)):False:=Ee.mpr ((@DP a 16).mpr h0.2) h1
theorem akJ(h0:a<1000):0<=(a:Int):=DO a
theorem akK(h0:1<=a/\a<=4)(h1:0=a):False:=by lia
theorem oh(h0:1<=a/\a<=3):1<=(a:Int):=by lia
theorem akL(h0:a<4):a<1000:=by lia
theorem akM(h0:a<256):0<=(a:Int):=DO a
theorem adb(h0:¬a<=8):8<(a:Int):=by lia
theorem akO(h0:a<10000):a<=16777216:=by lia
theorem akP(h0:a<=65536)(h1:b<a):0<=(b:Int)/\(b:Int)<65536:=⟨DO _,(@C2 b 65536).mpr (Nat.lt_of_lt_of_le h1 h0)⟩
theorem ade(h0:1<=a/\a<=3):(a:Int)<=65535:=(@DP a 65535).mpr (Nat.le_trans h0.2 (by decide))
theorem oj(h0:a=b):¬a<b:=λh=>CI h0 (CP h)
theorem akQ(h0:a<100000)(h1:b<a)(h2:a-b=c+1):c+1<100000:=h2▸Nat.lt_of_le_of_lt (DK a b) h0
theorem akR(h0:a<b)(h1:b<c):c+2≠a:=CW (Nat.lt_of_lt_of_le (CM h0 h1) (Nat.le_add_right c 2))
theorem akS:a+(a+(a+(a+(a+(a+(a+(a+a)))))))=9*a:=by lia
theorem akT(h0:a<=5):a<=16777216:=by lia
theorem akU(h0:0<a)(h1:a<1000):(a:Int)<1073741824:=(@C2 a 1073741824).mpr (CM h1 (by decide))
theorem akV(h0:0<a)(h1:a<1000):0<=(a:Int):=DO a
theorem akW(h0:0<a)(h1:a<=36):a<1000000000:=by lia
theorem akX{x0:Nat}{y1:Int}(h0:(((x0:Nat):Int)=y1))(h1:((y1-(1:Int))=(((x0-(1:Nat)):Nat):Int))):((x0-(1:Nat))<x0):=by cases x0 with |zero=>subst h0;cases h1 |succ k=>exact DU k
theorem adf(h0:a+1+1<2):False:=by lia
theorem akY(h0:a<b):min a b+(b-(a+1)+1)=b:=by rw[ED (CN h0),<-Ej,Jt (E0 h0),EX (CN h0)]
theorem akZ(h0:0<a/\a<=2):a<1000:=by lia
theorem ak0(h0:0<a/\a<=2):a<18446744073709551616:=by lia
theorem ak1(h0:0<a/\a<=2):a<=1000:=by lia
theorem ak2(h0:8≠(a:Int)/\16≠(a:Int)):a≠8:=λe=>h0.1 (e▸rfl)
theorem ak3(h0:8≠(a:Int)/\16≠(a:Int)):a≠16:=λe=>h0.2 (e▸rfl)
theorem rO(h0:a<1000)(h1:b=a)(h2:c=a):c<=16777216:=by lia
theorem ak4(h0:0<a)(h1:a<1000):a<=16777216:=by lia
theorem ak5(h0:a<1000):a<=DB ((a:Int)-0):=by rw[KA];exact Nat.le_refl _
theorem ak6:a<=a+b+1:=by lia
theorem adg(h0:a<1000)(h1:b=a):b<=16777216:=by lia
theorem ak7(h0:a<1000):a<1000000000:=by lia
theorem ak8(h0:(a+1:Int)=(a:Int)):False:=by lia
theorem adh(h0:0<a)(h1:a<900):a<1000:=by lia
theorem fh(h0:1<=a/\a<=3):0<a:=by lia
theorem c5(h0:1<=a/\a<=3):a<1000:=by lia
theorem ak9:a<=a+b:=Nat.le_add_right a b
theorem ala:a<=a+b+c:=by lia
theorem alb:a<=a+b+c+d:=by lia
theorem alc(h0:0<a):0<=-(1:Int)+(a:Int):=by lia
theorem ald(h0:0<a):DB (-(1:Int)+(a:Int))=a-1:=by rw[HO];exact CH DB (Gu h0).symm
theorem ale{a:Int}(h0:0<=a/\a<=a-1):False:=by lia
theorem adi(h0:1<=a/\a<=3):a<1000000000:=by lia
theorem adj:0<=(a:Int):=DO a
theorem alf(h0:a<=b):a<=b:=Mq.mp h0
theorem alg(h0:a<=b)(h1:b<=c):a<=c+d+f+g:=Nat.le_trans (Nat.le_trans h0 h1) (Nat.le_trans (Nat.le_add_right _ d) (Nat.le_trans (Nat.le_add_right _ f) (Nat.le_add_right _ g)))
theorem alh:0<(a+1:Int):=Int.ofNat_succ_pos a
theorem ali(h0:a+b+c<=d):¬d<a+b:=Ep.mpr (Nat.le_trans (Nat.le_add_right _ c) h0)
theorem alj(h0:a=b*c*d*f)(h1:g<2+i+1+a):g-2-i<1+a:=Ej g 2 i▸ap7 (CX (2+i) 1 a▸h1) (Nat.lt_of_lt_of_le EZ (Nat.le_add_right 1 a))
theorem alk(h0:a<100000)(h1:b=c*d*f*g)(h2:a=2+i+1+b):0<a:=h2▸Nat.lt_of_lt_of_le (FI (2+i)) (Nat.le_add_right _ b)
theorem alm(h0:a<100000)(h1:b=c*d*f*g)(h2:a=2+i+1+b)(h3:j<10)(h4:¬1<j):j<a:=h2▸Nat.lt_of_le_of_lt (Dj h4) (Nat.lt_of_lt_of_le (by decide:1<2) (Nat.le_trans (Nat.le_add_right 2 i) (Nat.le_trans (Nat.le_add_right _ 1) (Nat.le_add_right _ b))))
theorem aln(h0:a<10)(h1:¬1<a):¬1<(a:Int):=λh=>h1 ((@C2 1 a).mp h)
theorem alo(h0:a<15):2<=2+a/\2+a<=16:=⟨Nat.le_add_right ..,(CY (Eh h0) 2:2+a<=2+14)⟩
theorem adk(h0:1<=a/\a<=4):a<1000:=by lia
theorem alp(h0:a<=b)(h1:b<100000):(a:Int)<1099511627776:=(@C2 a 1099511627776).mpr (CM (Nat.lt_of_le_of_lt h0 h1) (by decide))
theorem alq(h0:a<=b)(h1:c-d=b)(h2:d<=c):d+a<=c:=Nat.le_trans (CY h0 d) (CZ (h1▸EX h2))
theorem adl(h0:a-b<c+1)(h1:¬b=a)(h2:b<a):a-(b+1)<c:=Nat.lt_of_lt_of_le (Nat.sub_lt_sub_left h2 (DU b)) (Eh h0)
theorem alr(h0:a-b=c)(h1:0<c):a=b+c/\b<=a:=have h:=CN (LH (h0▸h1));⟨by rw[<-h0,EX h],h⟩
theorem als(h0:a=b+(c+(d+f))):b+(c+d)<=a:=h0▸CY (CY (Nat.le_add_right d f) c) b
theorem alu(h0:a=b+(c+(d+f))):a-(d+f)+d=b+(c+d):=by rw[h0,<-CX c,<-CX b,<-CX b,CX (b+c),GC]
theorem alw:a+(b+c)+(d+f)+g=a+(b+c+(d+f)+g):=by rw[CX a,CX a]
theorem alx:a+(b+(c+(d+(f+g))))=a+b+(c+d)+f+g:=by rw[CX (a+b),CX c,CX (a+b),CX a];rw[CX c (d+f),CX d]
theorem adm(h0:¬a<=b):b<=a:=GE h0
theorem aly(h0:0<a)(h1:¬b<=c)(h2:b-c<=d)(h3:¬b<c+d):b-(c+d)<f+a:=by rw[GG (LU.mp h2)];exact Nat.lt_of_lt_of_le h0 (EM ..)
theorem alz(h0:¬a<=b)(h1:a-b<=c)(h2:¬a<b+c):¬d<a-(b+c):=GG (LU.mp h1)▸DX d
theorem alA(h0:0<a)(h1:b-c-d<=f):b-(c+d)<f+a:=Ej b c d▸Nat.lt_of_le_of_lt h1 (Hi h0)
theorem alB(h0:a-b-c<=d):¬d<a-(b+c):=Ej a b c▸Ep.mpr h0
theorem alC(h0:¬a-b-c<=d)(h1:a-b-c-d<f):a-(b+c)<d+f:=Ej a b c▸(Gb (Fm h0)).mp h1
theorem alD(h0:¬a-b-c<=d):d<a-(b+c):=Ej a b c▸EY h0
theorem alE(h0:0<a)(h1:¬b-c-d<=f)(h2:¬b-c-d-f<a):¬b-(c+d)<f+a:=Ej b c d▸λh=>h2 ((Gb (Fm h1)).mpr h)
theorem alF:a-(b+c)-(d+f)=a-b-c-d-f:=by rw[<-Ej,<-Ej]
theorem alG(h0:a<=b)(h1:0<c):a+1<=d+c+(f+g)+b:=(En b (d+c+(f+g)))▸C7 h0 (Nat.le_trans h1 (Nat.le_trans (EM c d) (Nat.le_add_right ..)))
theorem alH(h0:a<b+c+d)(h1:¬a<=b)(h2:¬a-b<c):a-b-c<d:=(Gb (Dj h2)).mpr ((Gb (Fm h1)).mpr (CX b c d▸h0))
theorem alI(h0:a<=9):a<=16777216:=by lia
theorem alJ(h0:a<=9):¬9<(a:Int):=Ee.mpr ((@DP a 9).mpr h0)
theorem alK(h0:2<=a/\a<=16):¬a<2:=by lia
theorem alL{b:Int}(h0:2<=a/\a<=16)(h1:b=(a:Int)):0<=(a:Int):=DO a
theorem alM{b:Int}(h0:2<=a/\a<=16)(h1:b=(a:Int)):(a:Int)<=1000:=by lia
theorem alN{b:Int}(h0:2<=a/\a<=16)(h1:b=(a:Int)):2<=(a:Int):=(@DP 2 a).mpr h0.1
theorem alO{b:Int}(h0:2<=a/\a<=16)(h1:b=(a:Int)):(a:Int)<=16:=by lia
theorem alP(h0:¬(2<=a/\a<=16))(h1:2<=a):¬(a:Int)<=16:=λh=>h0 ⟨h1,(@DP a 16).mp h⟩
theorem alQ(h0:¬2<=a):¬2<=(a:Int):=λh=>h0 ((@DP 2 a).mp h)
theorem alR(h0:a<1000000000):(a:Int)<1099511627776:=(@C2 a 1099511627776).mpr (CM h0 (by decide))
theorem alS(h0:a<1000000000):-(2305843009213693952:Int)<=(a:Int):=Int.neg_ofNat_le_natCast 2305843009213693952 a
theorem alT(h0:a<1000000000):(a:Int)<2305843009213693952:=(@C2 a 2305843009213693952).mpr (CM h0 (by decide))
theorem alU:(a:Int)<(b:Int)+(c*d:Int)↔a<b+c*d:=@C2 a (b+c*d)
theorem alV(h0:a<100000)(h1:b<=a)(h2:a-b=c*1+d):b+c<1000000000:=CM (Nat.lt_of_le_of_lt (Nat.le_trans (CY (Nat.le_trans (CZ (Js c).symm) (Nat.le_add_right _ d)) b) (CZ (h2▸EX h1))) h0) (by decide)
theorem alW(h0:a<100000)(h1:b<=a)(h2:a-b=c*2+d):b+2*c<1000000000:=CM (Nat.lt_of_le_of_lt (Jr 2 c▸Nat.le_trans (CY (Nat.le_add_right (c*2) d) b) (CZ (h2▸EX h1))) h0) (by decide)
theorem alX:a<=DB ((b:Int)+2*(a:Int)-(b:Int)):=by rw[HO,IP];exact Nat.le_mul_of_pos_left a (by decide)
theorem alY(h0:a<b):(c:Int)+(a:Int)*2<(c:Int)+2*(b:Int):=Int.add_lt_add_left (Kv 2 b▸Int.mul_lt_mul_of_pos_right (C2.mpr h0) (by decide)) _
theorem al0:(a/256:Int)*256+(a%256:Int)=(a:Int):=CH Int.ofNat (Nat.div_add_mod' a 256)
theorem al1:¬(a:Int)+(b:Int)*2<(a:Int)+2*(b:Int):=by lia
theorem al2(h0:a<100000)(h1:b<=a)(h2:a-b=c*2+d):c<=16777216:=Nat.le_trans (Nat.le_trans (Jp c (by decide:0<2)) (Nat.le_trans (Nat.le_add_right _ d) (h2▸DK a b))) (Nat.le_trans (CN h0) (by decide))
theorem al3(h0:a<100000)(h1:b<=a)(h2:a-b=c*d+f)(h3:c<=c*d):c<1000000000:=CM (Nat.lt_of_le_of_lt (Nat.le_trans h3 (Nat.le_trans (Nat.le_add_right _ f) (h2▸DK a b))) h0) (by decide)
theorem al4(h0:a<=b)(h1:b-a=c*d+f):¬b<a+c*d:=Ep.mpr (Nat.le_trans (CY (Nat.le_add_right (c*d) f) a) (CZ (h1▸EX h0)))
theorem al5(h0:a+60*b+10*c+60<=9000):a+10<=9800:=Nat.le_trans (Eg (Nat.le_trans (Nat.le_trans (Nat.le_add_right a (60*b)) (Nat.le_add_right _ (10*c))) (Nat.le_trans (Nat.le_add_right _ 60) h0)) 10) (by decide)
theorem mf(h0:a+60*b+10*c+60<=9000):a+60*b<=8950:=Nat.le_trans (Nat.le_trans (Nat.le_add_right _ (10*c)) (Im (show _+60<=8940+60 from h0))) (by decide)
theorem al7{a c:Int}:a+((b:Int)*c+1*c)=a+(b:Int)*c+c:=by rw[Kz,Int.add_assoc]
theorem al8{a:Int}:a-((b:Int)+1)=a-(b:Int)-1:=Fv (Int.sub_sub a (↑b) 1)
theorem al9(h0:a+(b+1)<=c):a+1+b<=c:=Nat.le_trans (CZ (Hm a b)) h0
theorem ama:a+(b+1)=a+1+b:=Fv (Hm a b)
theorem amb(h0:a=b):0+b<=a:=by lia
theorem amc(h0:a+60*b+10*(c+1)+60<=9000):a+60*b+10*c+60<=9000:=Nat.le_trans (Eg (CY (DW 10 (FF c)) _) 60) h0
theorem ame(h0:a=b+1)(h1:a<=b):False:=by lia
theorem amg(h0:a=b)(h1:a=c):c=b:=by lia
theorem amh(h0:a+(b+1)+2<=9800):a<9900:=Nat.lt_of_le_of_lt (Nat.le_trans (Nat.le_add_right a (b+1)) (Nat.le_trans (Nat.le_add_right _ 2) h0)) (by decide)
theorem ami(h0:a+(b+1)+2<=9800):a+1+b+2<=9800:=Nat.le_trans (CZ (CH (·+2) (Hm a b))) h0
theorem amj(h0:a+10<=9800):a+(0+3+1)+2<=9800:=Nat.le_trans (CY (by decide:6<=10) a) h0
theorem amk(h0:a=b)(h1:c<a):c<b:=GF h1 h0
theorem amm(h0:a<=1000):a+1<=16777216+1:=by lia
theorem amn(h0:a=b+1):a≠b:=by lia
theorem amo(h0:a+1=b)(h1:c=b+1):c≠a:=h1▸h0▸CW (EC (DU a))
theorem amq(h0:a+1=b):a<b:=h0▸DU a
theorem amr(h0:a+b<480):a+1<500:=Nat.lt_of_le_of_lt (EE (Nat.le_trans (Nat.le_add_right a b) (CN h0))) (by decide)
theorem adp:min a 2=0\/min a 2=1\/min a 2=2:=match a with |0=>.inl rfl |1=>.inr (.inl rfl) |n+2=>.inr (.inr (Fn (EM ..)))
theorem ams:min a 2<=2:=DV a 2
theorem adq(h0:a+(b+1)<480):a+1+b<480:=by lia
theorem amt(h0:a+60*(b+1)<=8950):a+3+60*b+100<=9000:=by rw[Jn a 3];exact Nat.le_trans (Eg (Im (show a+60*b+60<=8890+60 from h0)) 103) (by decide)
theorem amu(h0:a<=40):a≠41:=by lia
theorem amv(h0:a+60*(b+1)+10*c+60<=9000):a+3+60*b+100<=9000:=by rw[Jn a 3];exact Nat.le_trans (CY (by decide:103<=120) (a+60*b)) (Nat.le_trans (Eg (Nat.le_add_right (a+60*(b+1)) (10*c)) 60) h0)
theorem amw(h0:a+b<480):a<500:=Nat.lt_of_le_of_lt (Nat.le_add_right a b) (CM h0 (by decide))
theorem amx{a:Int}(h0:0<=a)(h1:b<=16777216)(h2:DB a<b):a<(b:Int)/\a<16777216:=⟨(GT h0).mp h2,Kt ((GT h0).mp h2) (DP.mpr h1)⟩
theorem amy{a:Int}(h0:¬0<=a):a<0:=Int.lt_of_not_ge h0
theorem amz{c:Int}(h0:a=b)(h1:0<=c+(b:Int)):-(b:Int)<=c:=Int.add_nonneg_iff_neg_le.mp h1
theorem amA{a:Int}(h0:0<=a)(h1:a<1000):¬a<0:=Int.not_lt_of_ge h0
theorem amB{a:Int}(h0:0<=a)(h1:a<1000)(h2:DB a<b)(h3:c=b):a<(b:Int):=(GT h0).mp h2
theorem amC(h0:min a b+c<b):a+c<b:=(Jq a b).elim (λh=>ED h▸h0) λh=>by rw[Fn h] at h0;exact CI h0 (Ep.mpr (Nat.le_add_right b c))
theorem amD(h0:min a b+c<b):min a b=a:=(Jq a b).elim ED λh=>CI h0 (by rw[Fn h];exact Ep.mpr (Nat.le_add_right ..))
theorem amE(h0:¬min a b+c<b):¬a+c<b:=λh=>h0 (Nat.lt_of_le_of_lt (Eg (F9 ..) c) h)
theorem amF(h0:¬min a b+c<b):b<=min a b+c:=Dj h0
theorem amG(h0:¬a+b<c):c<=a+b:=Dj h0
theorem amH(h0:a<b)(h1:0=b-a):False:=CI h1 (CP (E0 h0))
theorem amI(h0:0<a)(h1:b<c)(h2:b+a<=c):c-b+a-1=c-(b+a)+a-1+a:=by rw[<-Ej,Jt (LA h2),LQ (E0 h1)]
theorem amJ(h0:¬a+b<=c):c-(a+b)=0:=GG (Fm h0)
theorem rP(h0:0<a):a-1<a:=GH h0 EZ
theorem amK(h0:0<a)(h1:b<c)(h2:¬b+a<=c):c-b+a-1=c-b-1+a:=LQ (E0 h1)
theorem amL(h0:a<b)(h1:¬a+c<=b):b-a-1<c:=Nat.lt_of_le_of_lt (DK ..) ((Gb (CN h0)).mpr (EY h1))
theorem amM:a+(b*c+b*1)=a+b+b*c:=by lia
theorem amN(h0:a<b)(h1:c+1=b-a):c=b-(a+1):=(CH (· -1) h1).trans (Ej b a 1)
theorem amO(h0:0<a)(h1:b<c)(h2:d+1=f)(h3:d=c-(b+1)):c-(b+a)<d+1:=h3▸Eo (LV (CY h0 b) c)
theorem amP(h0:0<a):b+1+(a-1)=b+a:=by rw[CX,EX h0]
theorem amQ(h0:0<a)(h1:b<c)(h2:d+1=f)(h3:d=c-(b+1)):c-(b+a)<=d:=h3▸LV (CY h0 b) c
theorem amR(h0:¬a<b):b-a=0:=GG (Dj h0)
theorem amS:min a b-c<=b:=Nat.le_trans (DK ..) (DV ..)
theorem adt(h0:0<a):(a:Int)>0:=GS.mpr h0
theorem adu:¬(a:Int)<0:=Int.not_ofNat_neg a
theorem amT(h0:a<=b)(h1:¬c<=b):min a b<=c:=Nat.le_trans (DV ..) (Fm h1)
theorem amU(h0:a<=b)(h1:¬c<=b):min a b<=min c b:=Nat.le_min.mpr ⟨Nat.le_trans (DV ..) (Fm h1),DV ..⟩
theorem adv(h0:¬a<=b):b<=min a b:=Nat.le_min.mpr ⟨Fm h0,Nat.le_refl _⟩
theorem amW(h0:min a b=c):c<=b:=h0▸DV ..
theorem amX(h0:a<=b):min a b=a:=ED h0
theorem amY{x0 x1 x2 x3:Nat}(h0:((0:Nat)<x0))(h1:(x1=x2))(h2:(((x3:Nat):Int)<((x2:Nat):Int))):((((((x2:Nat):Int)-((x3:Nat):Int))+((x0:Nat):Int))-(1:Int))=(((((x2-x3)+x0)-(1:Nat)):Nat):Int)):=by rw[Gu (Nat.le_trans h0 (EM ..)),FT,Gu (DP.mp (EJ h2))];rfl
theorem amZ(h0:a=b)(h1:¬(c:Int)<(b:Int)):b-c=0:=GG (DP.mp (Ee.mp h1))
theorem am0(h0:0<a)(h1:b=c)(h2:a*d+a<=c-f+a-1):f+a*d<c:=Lo (Nat.lt_of_add_lt_add_right (Nat.lt_of_le_of_lt h2 (GH (Nat.lt_of_lt_of_le h0 (EM _ _)) EZ)))
theorem am1(h0:a<=b)(h1:c=a):a-d<=b:=Nat.le_trans (DK ..) h0
theorem am2(h0:a<=16777216)(h1:b<=a):b<=16777216:=Nat.le_trans h1 h0
theorem am4:(0:Int)<=(4611686018427387904:Int)/\(0:Int)<=(0:Int):=by decide
theorem am5(h0:a<=16777216):a<=1099511627776:=by lia
theorem am7{a:Int}(h0:¬a=0)(h1:a=0):(b+1:Int)=(0:Int):=by lia
theorem am8:a+1+1-1=a+1-1+1:=Nat.add_succ_sub_one (a+1) 0
theorem am9:a+b+(b*(c+1-1)+(d+f))=b*(c+1-1)+b*1+(a+(d+f)):=by rw[Js,En a,En (b*_) b,CX b,CX b,Nat.add_left_comm a]
theorem adw:a+b+c=a+(b+c):=CX a b c
theorem ana(h0:2<=a)(h1:0=a):False:=by lia
theorem anb(h0:2<=a)(h1:1=a):False:=by lia
theorem anc(h0:a=b)(h1:c<b)(h2:b-c=d+1):b-(c+1)=d:=(Ej b c 1).symm.trans (CH (· -1) h2)
theorem adx(h0:a<=16777216):a<=16777216:=by lia
theorem ane(h0:a+60*(b+1)+10*c+60<=9000):a+60*(b+1)<=8950:=Nat.le_trans (Nat.le_trans (Nat.le_add_right _ (10*c)) (Im (show _+60<=8940+60 from h0))) (by decide)
theorem anf:2+2*a=2*(a+1):=by lia
theorem ang(h0:2*a<=b)(h1:c+d=a+1)(h2:d<a)(h3:f=2*d):f<b:=h3▸Nat.lt_of_succ_lt (Nat.le_trans (DW 2 h2) h0:2*d+1<b)
theorem anh(h0:2*a<=b)(h1:c+d=a+1)(h2:d<a)(h3:f=2*d):f+1<b:=h3▸(Nat.le_trans (DW 2 h2) h0:2*d+1<b)
theorem ani{a:Int}:0<=a%256:=by lia
theorem anj(h0:a+b=c+1)(h1:b<c):a-1<a:=GH (Nat.pos_of_ne_zero λe=>by rw[e,EO] at h0;exact CI h1 (Ep.mpr (h0▸FF c))) EZ
theorem ank(h0:a+b=c+1)(h1:b<c):a-1+(b+1)=c+1:=by cases a with |zero=>rw[EO] at h0;exact CI h1 (Ep.mpr (h0▸FF c)) |succ k=>rw[<-h0];exact(Hm k b).symm
theorem anQ{s g v a m L:Nat}(hs:s<g+v+(a+m)+L)(pm:0<m)(c4:¬s-g-v-a<m):s-g-v-a-m<L:=by rw[Ej s,Ej s] at c4⊢;rw[Ej s];have h:=Dj c4;refine Nat.sub_lt_left_of_lt_add ?_ (by rw[CX (g+v)];exact hs);rw[En];exact Nat.add_le_of_le_sub (CN (LH (Nat.lt_of_lt_of_le pm h))) h
theorem anP{a b c d q l:Nat}(h0:q<=l)(t:a-b=l+c)(h:a<d):q<d:=Nat.lt_of_le_of_lt (Nat.le_trans (Nat.le_trans h0 (Nat.le_add_right ..)) (t▸DK ..)) h
@[elab_as_elim] theorem rwg{α:Sort _}{a b:α}{M:α->Prop}(h:a=b)(k:M b):M a:=h▸k
@[elab_as_elim] theorem rwb{α:Sort _}{a b:α}{M:α->Prop}(h:b=a)(k:M b):M a:=h▸k
section
set_option compiler.extract_closed false
open Lean
def patZ (l:List Syntax):Syntax:=.node .none `null l.toArray
def patX (a:List Syntax)(s:String):Syntax:=((s.splitOn " ").foldl (fun t w=>match w.splitOn "/" with
  |[k,n]=>let n:=n.toNat!;.node .none (if k.length<6 then .mkSimple k else ("Lean."++k).toName) (t.take n).reverse.toArray::t.drop n
  |_=>(match w.toNat? with
    |some i=>a.getD i .missing
    |_=>.atom .none w)::t) []).headD .missing
def patQ (l:List Syntax):Syntax:=patX [patZ (l.intersperse (.atom .none ";"))] "0 Parser.Tactic.tacticSeq1Indented/1 Parser.Tactic.tacticSeq/1"
def pat1 (l:List (List Syntax)):Syntax:=patX [patZ (l.map fun t=>patX [patQ t] "| 0 group/2")] "first 0 Parser.Tactic.first/2"
def patE (f:String)(e:Syntax):Syntax:=patX [mkIdent (.str `Internal f),e] "refine 0 1 ? _ Parser.Term.syntheticHole/2 null/2 Parser.Term.app/2 Parser.Tactic.refine/2"
def patF (c:Bool)(f:String)(e:Syntax)(ns:List Syntax):List Syntax:=patE f e::((if c then [patX [mkIdent e.getId.getRoot] "clear 0 null/1 Parser.Tactic.clear/2"] else [])++[patX [patZ ns] "intro 0 Parser.Tactic.intro/2"])
def patP (l:List Syntax):Syntax:=patX [patQ l] "( 0 ) Parser.Tactic.paren/3"
def patK (b:Bool)(x:Syntax):MacroM Syntax:=if b then pure x else Macro.throwUnsupported
def patR (s:Syntax):MacroM Syntax:=patK (s[1][0].getNumArgs==0&&s[3].getNumArgs==0) (patP (s[2][1].getSepArgs.toList.map fun r=>pat1 [[patE (if r[0].getNumArgs==0 then "rwg" else "rwb") r[1]],[patX [r,mkIdent `offsetCnstrs] "rewrite + 1 Parser.Tactic.posConfigItem/2 Parser.Tactic.configItem/1 null/1 Parser.Tactic.optConfig/1 [ 0 null/1 ] Parser.Tactic.rwRuleSeq/3 null/0 Parser.Tactic.rewriteSeq/4"]]))
def patI (p:Syntax)(i:Nat):Syntax:=
  let q:=p[0][0][0]
  if p[0][0].getNumArgs ≠ 1 then .missing else if q[0].isIdent then (if q[0].getId==`rfl then mkIdent (.mkSimple s!"zR{i}") else q[0]) else if q.getNumArgs==1 then mkIdent `Z else .missing
def patT (s:Syntax):MacroM Syntax:=
  let p:=s[1][0][0]
  let e:=s[3][1][0]
  let ns:=(p[0][1].getSepArgs.mapIdx fun i x=>patI x i).toList
  let ws:=(("?a e?aa ea ee ae?aaa eaa eea eee aae aee?aaaa eaaa eeaa eeea eeee aaee aeee eaae eaea?aaaaa eaaaa eeaaa eeeaa eeeea aaaae aeaaa?aaaaaa eaaaaa eeaaaa eeeaaa eeeeaa eeeeea eeeeee aeeaaa aeeaae aeeeee".splitOn "?").getD (ns.length-1) "").splitOn " "
  let g:=fun c=>ws.map fun w=>patF c ("o_"++w) e ns
  patK (p.getNumArgs==1&&p[0].isOfKind `Lean.Parser.Tactic.rcasesPat.tuple&&s[2].getNumArgs==0&&s[3][1].getNumArgs==1) (patP (pat1 ((if e.isIdent then g true else [])++g false)::((ns.filter fun n=>n.getId.toString.startsWith "zR").map fun n=>patX [n] "subst 0 null/1 Parser.Tactic.subst/2")))
def patA (c:Bool)(e p:Syntax)(a:Name):Syntax:=patX [mkIdent a,patQ ((if c then [patX [e] "clear 0 null/1 Parser.Tactic.clear/2"] else [])++(if p.getNumArgs==3 then [patX [mkIdent `zz] "intro 0 null/1 Parser.Tactic.intro/2",patX [p,mkIdent `zz] "obtain 0 null/1 Parser.Tactic.rcasesPatMed/1 null/1 null/0 := 1 null/1 null/2 Parser.Tactic.obtain/4"] else [patX [p] "rintro 0 Parser.Tactic.rintroPat.one/1 null/1 null/0 Parser.Tactic.rintro/3"]))] "case' 0 binderIdent/1 null/0 Parser.Tactic.caseArg/2 null/1 => 1 Parser.Tactic.case'/4"
def patO (s:Syntax):MacroM Syntax:=
  let e:=s[1][0][1]
  let p:=s[2][1][0][0]
  let c:=e.isIdent&&e.getId.getRoot==e.getId
  patK (s[1].getNumArgs==1&&s[1][0][0].getNumArgs==0&&p.getNumArgs==3&&s[2][1][1].getNumArgs==0) (pat1 [[patX [mkIdent `Or.elim,e,mkIdent `a,mkIdent `b] "refine 0 1 ? 2 Parser.Term.syntheticHole/2 ? 3 Parser.Term.syntheticHole/2 null/3 Parser.Term.app/2 Parser.Tactic.refine/2",patA c e p[2] `b,patA c e p[0] `a]])
def patC (s:Syntax):MacroM Syntax:=
  let h:=s[1][0][1]
  let x:=fun f=>[patX [mkIdent (.str `Internal f),h,mkIdent `rfl] "exact 0 1 2 null/2 Parser.Term.app/2 Parser.Tactic.exact/2"]
  patK (s[1].getNumArgs==1&&h.isIdent&&s[1][0][0].getNumArgs==0&&s[2].getNumArgs==0&&s[3].getNumArgs==0) (pat1 [x "xo",x "xr",x "xb",patF true "xj" h [h]++[patX [h] "subst 0 null/1 Parser.Tactic.subst/2"]])
end
end
local macro_rules (kind:=Lean.Parser.Tactic.rewriteSeq)|s=>Internal.patR s
local macro_rules (kind:=Lean.Parser.Tactic.obtain)|s=>Internal.patT s
local macro_rules (kind:=Lean.Parser.Tactic.rcases)|s=>Internal.patO s
section
set_option autoImplicit true
inductive AV where
 |undef |none
 |bool (b:Bool) |int (i:Int) |str (s:Str) |bytes (b:List UInt8)
 |ref (a:Nat)
 |tup (vs:List AV)
 |inst (c:Nat) (vs:List AV)
 |tR (vs:List Int)
 |uP (a b c:Int)
 |gd (k:Nat)
 |fn (k:Nat)
noncomputable def AV.ctorIdx(a:AV):Nat:=AV.casesOn a 0 1 (λ_=>2) (λ_=>3) (λ_=>4) (λ_=>5) (λ_=>6) (λ_=>7) (λ_ _=>8) (λ_=>9) (λ_ _ _=>10) (λ_=>11) λ_=>12
inductive AO where
 |list (xs:List AV)
 |dict (es:List (List UInt8×AV))
 |un (b:List UInt8)
noncomputable def AO.ctorIdx(a:AO):Nat:=AO.casesOn (motive:=λ_=>Nat) a (λ_=>0) (λ_=>1) λ_=>2
noncomputable abbrev AH:=List AO
inductive R(α:Type) where
 |ok (a:α) (H:AH)
 |exc (k:Nat) (H:AH)
 |bad
noncomputable def R.ctorIdx{α:Type}(a:R α):Nat:=R.casesOn (motive:=λ_=>Nat) a (λ_ _=>0) (λ_ _=>1) 2
noncomputable def R.bind{α β:Type}(r:R α)(f:α->AH->R β):R β:=match r with
 | .ok a H=>f a H
 | .exc k H=>.exc k H
 | .bad=>.bad
noncomputable def R.of{α:Type}(o:Option α)(H:AH):R α:=match o with
 |some a=>.ok a H
 |none=>.bad
set_option genCtorIdx true in
inductive zk |add |sub |mul |fdiv |mod |pow |shl
set_option genCtorIdx true in
inductive yA |eq |ne |lt |le |gt |ge |isin |ui
set_option genCtorIdx true in
inductive BI |len |int |bytes |list |bytearray |max |min |all |isInt |str |range deriving DecidableEq
set_option genCtorIdx true in
inductive MT |append |pop |tZ |toBytes |encode |get |join
mutual
inductive PE where
 |var (i:Nat)
 |glob (k:Nat)
 |s7 (i:Int) |tH (s:Str) |s9 (b:List UInt8) |ug (b:Bool)
 |bin (o:zk) (a b:PE)
 |neg (a:PE) |not (a:PE)
 |band (es:ub) |bor (es:ub)
 |cmp (a:PE) (o:yA) (b:PE)
 |uE (a:PE) (o:yA) (b:PE) (o':yA) (c:PE)
 |u5 (c a b:PE)
 |list (es:ub) |tup (es:ub) |uL
 |idx (a i:PE)
 |slice (a:PE) (lo hi st:ub)
 |attr (a:PE) (n:Nat)
 |comp (elt:PE) (t:List Nat) (one:Bool) (it:PE) (zip:ub) (conds:ub)
 |call (k:Nat) (es:ub)
 |new (c:Nat) (es:ub)
 |bi (f:BI) (es:ub)
 |tN (m:MT) (o:PE) (es:ub)
 |most (o:PE)
 |tB (i:Nat) (t8:List Nat)
inductive ub where
 |nil
 |cons (e:PE) (es:ub)
end
inductive PT where
 |var (i:Nat)
 |tup (is:List Nat)
 |sub (a i:PE)
mutual
inductive PS where
 |assign (t:PT) (e:PE)
 |expr (e:PE)
 |ret (e:PE)
 |ifs (c:PE) (a b:tQ)
 |uO (c:PE) (b:tQ)
 |for (t:List Nat) (one:Bool) (it:PE) (b:tQ)
 |raise (k:Nat)
 |vK (e:PE) (hs:xv)
 |defn (i k:Nat)
inductive tQ where
 |nil
 |cons (s:PS) (ss:tQ)
inductive xv where
 |nil
 |cons (k:Nat) (b:tQ) (hs:xv)
end
noncomputable def jX:List UInt8:= [32,9,10,11,12,13]
noncomputable def aW:List UInt8:= [87,73,68,84,72]
noncomputable def aV:List UInt8:= [72,69,73,71,72,84]
noncomputable def aZ:List UInt8:= [68,69,80,84,72]
noncomputable def aU:List UInt8:= [77,65,88,86,65,76]
noncomputable def pR:List UInt8:= [71,82,65,89,83,67,65,76,69]
noncomputable def pT:List UInt8:= [82,71,66]
noncomputable def pP:List UInt8:= [67,77,89,75]
def lZ:List AV:= [.bytes aW,.bytes aV,.bytes aZ,.bytes aU]
def tabI:Nat->List (Int×AV)
 |3=>[(1,.bytes pR),(3,.bytes pT),(4,.bytes pP)]
 |4=>[(1,.str "grey"),(3,.str "rgb"),(4,.str "cmyk")]
 |_=>[]
noncomputable def tabS:Nat->List (Str×AV)
 |5=>[("grey",.int 1),("rgb",.int 3),("ycc",.int 3),("cmyk",.int 4),("ycck",.int 4)]
 |_=>[]
def lR:Nat->AV
 |0=>.bytes jX
 |1=>.int 9
 |2=>.tup lZ
 |k=>.gd k
noncomputable def al:Nat:=16777216
noncomputable def cI:Nat:=18446744073709551616
noncomputable def az(H:AH)(p:Nat):Option (List AV):=match H[p]? with
 |some (.list xs)=>some xs
 |_=>none
def cn(xs:List AV)(H:AH):R AV:=if xs.length<=al then .ok (.ref H.length) (H++[.list xs]) else .bad
def jB(b:List UInt8)(H:AH):R AV:=if b.length<=al then .ok (.bytes b) H else .bad
noncomputable def aF{γ:Type}(d:γ)(a:AV)(f:Int->γ):γ:=match a with
 | .int i=>f i
 |_=>d
noncomputable def bI{γ:Type}(d:γ)(a:AV)(f:List UInt8->γ):γ:=match a with
 | .bytes i=>f i
 |_=>d
noncomputable def eN{γ:Type}(d:γ)(a:AV)(f:Str->γ):γ:=match a with
 | .str i=>f i
 |_=>d
noncomputable def bN{γ:Type}(d:γ)(a:AV)(f:Bool->γ):γ:=match a with
 | .bool i=>f i
 |_=>d
noncomputable def kA{γ:Type}(d:γ)(a:AV)(f:Nat->γ):γ:=match a with
 | .ref i=>f i
 |_=>d
noncomputable def iu{γ:Type}(d:γ)(a:AV)(f:List AV->γ):γ:=match a with
 | .tup i=>f i
 |_=>d
noncomputable def gV{γ:Type}(d:γ)(a:AV)(f:Nat->γ):γ:=match a with
 | .gd i=>f i
 |_=>d
noncomputable def ky{γ:Type}(d:γ)(a:AV)(f:List Int->γ):γ:=match a with
 | .tR i=>f i
 |_=>d
noncomputable def oq{γ:Type}(d:γ)(a:AV)(r:γ):γ:=match a with
 | .none=>r
 |_=>d
noncomputable def rR{γ:Type}(d:γ)(a:AV)(f:Nat->List AV->γ):γ:=match a with
 | .inst c vs=>f c vs
 |_=>d
noncomputable def aJ{γ α:Type}(d:γ)(a:Option α)(f:α->γ):γ:=match a with
 |some i=>f i
 |none=>d
def bU{γ:Type}(d:γ)(H:AH)(a:AV)(f:Nat->List AV->γ):γ:=kA d a λp=>aJ d (az H p) λxs=>f p xs
noncomputable def du(H:AH)(p:Nat):Option (List (List UInt8×AV)):=match H[p]? with
 |some (.dict es)=>some es
 |_=>none
def gU{γ:Type}(d:γ)(H:AH)(a:AV)(f:Nat->List (List UInt8×AV)->γ):γ:=kA d a λp=>aJ d (du H p) λes=>f p es
noncomputable def ew{γ:Type}(d:γ)(vs:List AV)(r:γ):γ:=match vs with
 |[]=>r
 |_=>d
noncomputable def gj{γ:Type}(d:γ)(vs:List AV)(f:AV->List AV->γ):γ:=match vs with
 |v::r=>f v r
 |[]=>d
def cF{γ:Type}(d:γ)(vs:List AV)(f:AV->γ):γ:=gj d vs λv r=>ew d r (f v)
def jF{γ:Type}(d:γ)(vs:List AV)(f:AV->AV->γ):γ:=gj d vs λv r=>cF d r (f v)
noncomputable def au{γ:Type}(d:γ)(c:Prop)[Decidable c](r:γ):γ:=if c then r else d
section
variable {γ:Type}{C:γ->Prop}{d:γ}{a:AV}{H:AH}{vs:List AV}
theorem kz{f:Int->γ}(h:C (aF d a f)):(∃i,a=.int i/\C (f i))\/C d:=by cases a<;>first |exact .inr h |exact .inl (ae _ rfl h)
theorem mi{f:List UInt8->γ}(h:C (bI d a f)):(∃i,a=.bytes i/\C (f i))\/C d:=by cases a<;>first |exact .inr h |exact .inl (ae _ rfl h)
theorem ou{f:Str->γ}(h:C (eN d a f)):(∃i,a=.str i/\C (f i))\/C d:=by cases a<;>first |exact .inr h |exact .inl (ae _ rfl h)
theorem rS{f:Bool->γ}(h:C (bN d a f)):(∃i,a=.bool i/\C (f i))\/C d:=by cases a<;>first |exact .inr h |exact .inl (ae _ rfl h)
theorem adC{f:Nat->γ}(h:C (kA d a f)):(∃i,a=.ref i/\C (f i))\/C d:=by cases a<;>first |exact .inr h |exact .inl (ae _ rfl h)
theorem adD{f:List AV->γ}(h:C (iu d a f)):(∃i,a=.tup i/\C (f i))\/C d:=by cases a<;>first |exact .inr h |exact .inl (ae _ rfl h)
theorem rU{f:Nat->γ}(h:C (gV d a f)):(∃i,a=.gd i/\C (f i))\/C d:=by cases a<;>first |exact .inr h |exact .inl (ae _ rfl h)
theorem adB{f:List Int->γ}(h:C (ky d a f)):(∃i,a=.tR i/\C (f i))\/C d:=by cases a<;>first |exact .inr h |exact .inl (ae _ rfl h)
theorem anT{r:γ}(h:C (oq d a r)):(a=.none/\C r)\/C d:=by cases a<;>first |exact .inr h |exact .inl ⟨rfl,h⟩
theorem adA{f:Nat->List AV->γ}(h:C (rR d a f)):(∃c vs,a=.inst c vs/\C (f c vs))\/C d:=by cases a<;>first |exact .inr h |exact .inl (bR _ _ rfl h)
theorem rV{α:Type}{o:Option α}{f:α->γ}(h:C (aJ d o f)):(∃i,o=some i/\C (f i))\/C d:=by
 cases o with
 |none=>exact .inr h
 |some x=>exact .inl (ae _ rfl h)
theorem rQ{r:γ}(h:C (ew d vs r)):(vs=[]/\C r)\/C d:=by
 cases vs with
 |nil=>exact .inl ⟨rfl,h⟩
 |cons v r=>exact .inr h
theorem om{f:AV->List AV->γ}(h:C (gj d vs f)):(∃v r,vs=v::r/\C (f v r))\/C d:=by
 cases vs with
 |nil=>exact .inr h
 |cons v r=>exact .inl (bR _ _ rfl h)
theorem ot{c:Prop}[Decidable c]{r:γ}(h:C (au d c r)):(c/\C r)\/C d:=by
 unfold au at h
 split at h
 ·exact .inl ⟨‹_›,h⟩
 ·exact .inr h
theorem oo{f:Nat->List AV->γ}(h:C (bU d H a f)):(∃p xs,a=.ref p/\az H p=some xs/\C (f p xs))\/C d:=by
 rcases adC h with⟨p,rfl,h⟩ |h
 ·rcases rV h with⟨xs,e,h⟩ |h
  ·exact .inl (ax p xs rfl e h)
  ·exact .inr h
 ·exact .inr h
theorem rT{f:Nat->List (List UInt8×AV)->γ}(h:C (gU d H a f)):(∃p es,a=.ref p/\du H p=some es/\C (f p es))\/C d:=by
 rcases adC h with⟨p,rfl,h⟩ |h
 ·rcases rV h with⟨xs,e,h⟩ |h
  ·exact .inl (ax p xs rfl e h)
  ·exact .inr h
 ·exact .inr h
theorem adz{f:AV->γ}(h:C (cF d vs f)):(∃v,vs=[v]/\C (f v))\/C d:=by
 rcases om h with⟨v,r,rfl,h⟩ |h
 ·rcases rQ h with⟨rfl,h⟩ |h
  ·exact .inl (ae v rfl h)
  ·exact .inr h
 ·exact .inr h
theorem anR{f:AV->AV->γ}(h:C (jF d vs f)):(∃v w,vs=[v,w]/\C (f v w))\/C d:=by
 rcases om h with⟨v,r,rfl,h⟩ |h
 ·rcases adz h with⟨w,rfl,h⟩ |h
  ·exact .inl (bR v w rfl h)
  ·exact .inr h
 ·exact .inr h
end
namespace uf
section
variable {α:Type}{r:α}{d:Option α}{a:AV}{H:AH}{vs:List AV}
theorem oI{f:Int->Option α}(h:aF d a f=some r):(∃i,a=.int i/\f i=some r)\/d=some r:=kz (C:=λo=>o=some r) h
theorem pI{f:Int->Option α}(h:aF none a f=some r):∃i,a=.int i/\f i=some r:=(oI h).resolve_right nofun
theorem oY{f:List UInt8->Option α}(h:bI d a f=some r):(∃i,a=.bytes i/\f i=some r)\/d=some r:=mi (C:=λo=>o=some r) h
theorem pY{f:List UInt8->Option α}(h:bI none a f=some r):∃i,a=.bytes i/\f i=some r:=(oY h).resolve_right nofun
theorem oS{f:Str->Option α}(h:eN d a f=some r):(∃i,a=.str i/\f i=some r)\/d=some r:=ou (C:=λo=>o=some r) h
theorem pS{f:Str->Option α}(h:eN none a f=some r):∃i,a=.str i/\f i=some r:=(oS h).resolve_right nofun
theorem oB{f:Bool->Option α}(h:bN d a f=some r):(∃i,a=.bool i/\f i=some r)\/d=some r:=rS (C:=λo=>o=some r) h
theorem pB{f:Bool->Option α}(h:bN none a f=some r):∃i,a=.bool i/\f i=some r:=(oB h).resolve_right nofun
theorem oT{f:List AV->Option α}(h:iu d a f=some r):(∃i,a=.tup i/\f i=some r)\/d=some r:=adD (C:=λo=>o=some r) h
theorem oG{f:Nat->Option α}(h:gV d a f=some r):(∃i,a=.gd i/\f i=some r)\/d=some r:=rU (C:=λo=>o=some r) h
theorem pG{f:Nat->Option α}(h:gV none a f=some r):∃i,a=.gd i/\f i=some r:=(oG h).resolve_right nofun
theorem oF{f:List Int->Option α}(h:ky d a f=some r):(∃i,a=.tR i/\f i=some r)\/d=some r:=adB (C:=λo=>o=some r) h
theorem oN{g:Option α}(h:oq d a g=some r):(a=.none/\g=some r)\/d=some r:=anT (C:=λo=>o=some r) h
theorem pN{g:Option α}(h:oq none a g=some r):a=.none/\g=some r:=(oN h).resolve_right nofun
theorem oC{f:AV->List AV->Option α}(h:gj d vs f=some r):(∃v l,vs=v::l/\f v l=some r)\/d=some r:=om (C:=λo=>o=some r) h
theorem pC{f:AV->List AV->Option α}(h:gj none vs f=some r):∃v l,vs=v::l/\f v l=some r:=(oC h).resolve_right nofun
theorem o0{g:Option α}(h:ew d vs g=some r):(vs=[]/\g=some r)\/d=some r:=rQ (C:=λo=>o=some r) h
theorem p0{g:Option α}(h:ew none vs g=some r):vs=[]/\g=some r:=(o0 h).resolve_right nofun
theorem oQ{q:Prop}[Decidable q]{g:Option α}(h:au d q g=some r):(q/\g=some r)\/d=some r:=ot (C:=λo=>o=some r) h
theorem pQ{q:Prop}[Decidable q]{g:Option α}(h:au none q g=some r):q/\g=some r:=(oQ h).resolve_right nofun
theorem oL{f:Nat->List AV->Option α}(h:bU d H a f=some r):(∃p xs,a=.ref p/\az H p=some xs/\f p xs=some r)\/d=some r:=oo (C:=λo=>o=some r) h
theorem pL{f:Nat->List AV->Option α}(h:bU none H a f=some r):∃p xs,a=.ref p/\az H p=some xs/\f p xs=some r:=(oL h).resolve_right nofun
theorem oD{f:Nat->List (List UInt8×AV)->Option α}(h:gU d H a f=some r):(∃p es,a=.ref p/\du H p=some es/\f p es=some r)\/d=some r:=rT (C:=λo=>o=some r) h
theorem pD{f:Nat->List (List UInt8×AV)->Option α}(h:gU none H a f=some r):∃p es,a=.ref p/\du H p=some es/\f p es=some r:=(oD h).resolve_right nofun
end
end uf
def aeM(a b:AV)(H:AH):R AV:=aF (bI (bU .bad H a λZ xs=>bU .bad H b λZ ys=>cn (xs++ys) H) a λx=>bI .bad b λy=>jB (x++y) H) a λx=>aF .bad b λy=>.ok (.int (x+y)) H
def aeP(a b:AV)(H:AH):R AV:=aF .bad a λx=>aF .bad b λy=>.ok (.int (x-y)) H
def aeO(a b:AV)(H:AH):R AV:=aF .bad b λy=>aF (bI (bU .bad H a λZ xs=>au .bad (0<y/\y<1000/\xs.length<1000) (cn (CK y.toNat xs).flatten H)) a
   λx=>au .bad (0<x.length/\x.length*y.toNat<=al/\1<y/\y<1000) (.ok (.bytes (CK y.toNat x).flatten) H)) a
   λx=>au .bad (x.natAbs<cI\/y.natAbs<cI) (.ok (.int (x*y)) H)
def aqy(a b:AV)(H:AH):R AV:=aF .bad a λx=>aF .bad b λy=>au .bad (0<y/\y<1073741824) (.ok (.int (x.fdiv y)) H)
def aqz(a b:AV)(H:AH):R AV:=aF .bad a λx=>aF .bad b λy=>au .bad (0<y/\y<4294967296) (.ok (.int (x.fmod y)) H)
def aqA(a b:AV)(H:AH):R AV:=aF .bad a λx=>aF .bad b λy=>au .bad (0<=y/\y<=1000/\x.natAbs<cI) (.ok (.int (x^y.toNat)) H)
def aqB(a b:AV)(H:AH):R AV:=aF .bad a λx=>aF .bad b λy=>au .bad (0<=y/\y<=1000/\x.natAbs<cI) (.ok (.int (x*2^y.toNat)) H)
def dc(o:zk)(a b:AV)(H:AH):R AV:=match o with
 | .add=>aeM a b H
 | .sub=>aeP a b H
 | .mul=>aeO a b H
 | .fdiv=>aqy a b H
 | .mod=>aqz a b H
 | .pow=>aqA a b H
 | .shl=>aqB a b H
noncomputable def fe(f:AV->AV->Option Bool):List AV->List AV->Option Bool
 |[],ys=>ew none ys (some true)
 |x::xs,ys=>gj none ys λy ys=>(f x y).bind λa=>(fe f xs ys).map (a&&·)
def il(x y:AV):Option Bool:=aF (bI (eN (bN (oq none x (eN none y λZ=>some false)) x λa=>bN none y λb=>some (a==b)) x λa=>eN none y λb=>some (a==b)) x λa=>bI none y λb=>some (a==b)) x λa=>aF none y λb=>some (a==b)
noncomputable def de(H:AH):Nat->AV->AV->Option Bool
 |0,x,y=>il x y
 |n+1,x,y=>bU (il x y) H x λZ xs=>bU none H y λZ ys=>if xs.length=ys.length then fe (de H n) xs ys else some false
noncomputable def gO(f:AV->Option Bool):List AV->Option Bool
 |[]=>some false
 |x::xs=>(f x).bind λa=>(gO f xs).map (a||·)
def gI(x y:AV):Option Bool:=aF (bI (bN none x λa=>bN none y λb=>some (a==b)) x λa=>bI none y λb=>some (a==b)) x λa=>aF none y λb=>some (a==b)
def kn(H:AH)(a b:AV):Option Bool:=aF (bI (bN none a λx=>bU none H b λZ xs=>gO (λy=>gI y (.bool x)) xs) a
  λk=>iu (gU none H b λZ es=>some (es.any λe=>e.1==k)) b λvs=>gO (λy=>gI y (.bytes k)) vs) a
  λx=>bI (iu (gV none b λk=>au none (k=3\/k=4) (some ((tabI k).any λe=>e.1==x))) b λvs=>gO (λy=>gI y (.int x)) vs) b λb=>au none (0<=x/\x<256) (some (b.any λc=>(c.toNat:Int)==x))
def cEq(H:AH)(a b:AV):Option Bool:=de H 4 a b
def cNe(H:AH)(a b:AV):Option Bool:=(de H 4 a b).map (!·)
def cLt(H:AH)(a b:AV):Option Bool:=aF none a λx=>aF none b λy=>some (decide (x<y))
def cLe(H:AH)(a b:AV):Option Bool:=aF none a λx=>aF none b λy=>some (decide (x<=y))
def cGt(H:AH)(a b:AV):Option Bool:=aF none a λx=>aF none b λy=>some (decide (x>y))
def cGe(H:AH)(a b:AV):Option Bool:=aF none a λx=>aF none b λy=>some (decide (x>=y))
def agg(H:AH)(a b:AV):Option Bool:=kn H a b
def agi(H:AH)(a b:AV):Option Bool:=(kn H a b).map (!·)
def bj(H:AH)(o:yA)(a b:AV):Option Bool:=match o with
 | .eq=>cEq H a b
 | .ne=>cNe H a b
 | .lt=>cLt H a b
 | .le=>cLe H a b
 | .gt=>cGt H a b
 | .ge=>cGe H a b
 | .isin=>agg H a b
 | .ui=>agi H a b
noncomputable def jy{α:Type}(xs:List α)(i:Int):Option α:=if 0<=i then xs[i.toNat]? else if 0<=i+xs.length then xs[(i+xs.length).toNat]? else none
def eJ(H:AH)(a i:AV):Option AV:=aF (bI none i λk=>gU none H a λZ es=>(es.find? λe=>e.1==k).map (·.2)) i
 λi=>bI (bU (iu (ky (gV none a λk=>au none (k=3\/k=4) (((tabI k).find? λe=>e.1==i).map (·.2))) a λvs=>au none (0<=i) ((vs[i.toNat]?).map .int)) a λvs=>au none (0<=i/\i<1000) (vs[i.toNat]?)) H a λZ xs=>jy xs i) a
  λb=>au none (0<=i) ((b[i.toNat]?).map λc=>.int c.toNat)
noncomputable def cut{α:Type}(xs:List α)(lo hi:Nat):List α:=(xs.take hi).drop lo
noncomputable def every{α:Type}(st:Nat):Nat->List α->List α
 |0,_=>[]
 |n+1,xs=>match xs with
  |[]=>[]
  |x::r=>x::every st n (r.drop (st-1))
noncomputable def ji:Int:=1099511627776
abbrev cg(i:Int):Prop:=0<=i/\i<ji
def dA(H:AH)(a:AV)(lo hi st:List AV):R AV:=ew (bU .bad H a λZ xs=>cF .bad lo λl=>cF .bad hi λu=>cF .bad st λt=>aF .bad l λl=>aF .bad u λu=>aF .bad t λt=>
   au .bad (cg l/\cg u/\0<t/\t<ji) (.ok (.ref H.length) (H++[.list (every t.toNat xs.length (cut xs l.toNat u.toNat))]))) st
 (ew (cF .bad lo λl=>aF .bad l λl=>ew (cF .bad hi λu=>aF .bad u λu=>bI .bad a λb=>au .bad (cg l/\cg u) (.ok (.bytes (cut b l.toNat u.toNat)) H)) hi
    (bI (bU .bad H a λZ xs=>au .bad (cg l) (.ok (.ref H.length) (H++[.list (xs.drop l.toNat)]))) a λb=>au .bad (cg l) (.ok (.bytes (b.drop l.toNat)) H))) lo
  (cF .bad hi λu=>aF .bad u λu=>bI (bU .bad H a λZ xs=>au .bad (cg u) (.ok (.ref H.length) (H++[.list (xs.take u.toNat)]))) a λb=>au .bad (cg u) (.ok (.bytes (b.take u.toNat)) H)))
def mQ(c n:Nat):Option Nat:=au none (c<2/\3*c<=n/\n<3*c+3) (some (n-3*c))
def lv(a:AV)(n:Nat):Option AV:=rR none a λc vs=>(mQ c n).bind λi=>vs[i]?
noncomputable def jT{α:Type}(g:AV->Option α):List AV->Option (List α)
 |[]=>some []
 |v::r=>(g v).bind λx=>(jT g r).map (x::·)
def u3:List AV->Option (List Int):=jT λv=>aF none v some
def bools:List AV->Option (List Bool):=jT λv=>bN none v some
def uB:List AV->Option (List (List UInt8)):=jT λv=>bI none v some
noncomputable def dq(i:Int):Bool:=decide (-2305843009213693952<=i)&&decide (i<2305843009213693952)
noncomputable def eR(i:Int):Str:=Et (toString i)
def aay(H:AH)(vs:List AV):R AV:=cF .bad vs λa=>bI (bU (iu (ky .bad a λvs=>.ok (.int vs.length) H) a λvs=>au .bad (vs.length<1000) (.ok (.int vs.length) H)) H a λZ xs=>.ok (.int xs.length) H) a λb=>.ok (.int b.length) H
def aaw(H:AH)(vs:List AV):R AV:=cF .bad vs λa=>bN (aF .bad a λi=>.ok (.int i) H) a λb=>.ok (.int (if b then 1 else 0)) H
def aav(H:AH)(vs:List AV):R AV:=cF .bad vs λa=>bI (bU .bad H a λZ xs=>aJ .bad (u3 xs) λns=>au .bad ((ns.all λn=>decide (0<=n)&&decide (n<256))=true) (.ok (.bytes (ns.map λn=>CT n.toNat)) H)) a λb=>.ok (.bytes b) H
def aaz(H:AH)(vs:List AV):R AV:=cF .bad vs λa=>bI (bU .bad H a λZ xs=>.ok (.ref H.length) (H++[.list xs])) a λb=>.ok (.ref H.length) (H++[.list (b.map λc=>.int c.toNat)])
def aaA(H:AH)(vs:List AV):R AV:=cF .bad vs λa=>bU .bad H a λZ xs=>aJ .bad (u3 xs) λns=>match ns with
  |n::ns=>.ok (.int (ns.foldl max n)) H
  |[]=>.bad
def aaB(H:AH)(vs:List AV):R AV:=jF .bad vs λa b=>aF .bad a λx=>aF .bad b λy=>.ok (.int (if y<x then y else x)) H
def pM(H:AH)(vs:List AV):R AV:=cF .bad vs λa=>bU .bad H a λZ xs=>aJ .bad (bools xs) λbs=>.ok (.bool (bs.all id)) H
def aax(H:AH)(vs:List AV):R AV:=cF .bad vs λa=>aF .bad a λZ=>.ok (.bool true) H
def aaD(H:AH)(vs:List AV):R AV:=cF .bad vs λa=>aF .bad a λi=>au .bad (i.natAbs<10^18) (.ok (.str (eR i)) H)
def aaC(H:AH)(vs:List AV):R AV:=gj .bad vs λa vs=>aF .bad a λa=>ew (gj .bad vs λb vs=>aF .bad b λb=>ew (cF .bad vs λc=>aF .bad c λc=>au .bad ((dq a&&dq b&&decide (0<c)&&decide (c<1000))=true) (.ok (.uP a b c) H)) vs
   (au .bad ((dq a&&dq b)=true) (.ok (.uP a b 1) H))) vs (au .bad (dq a=true) (.ok (.uP 0 a 1) H))
def cT(H:AH)(f:BI)(vs:List AV):R AV:=match f with
 | .len=>aay H vs
 | .int=>aaw H vs
 | .bytes=>aav H vs
 | .list=>aaz H vs
 | .max=>aaA H vs
 | .min=>aaB H vs
 | .all=>pM H vs
 | .isInt=>aax H vs
 | .str=>aaD H vs
 | .range=>aaC H vs
 | .bytearray=>.bad
noncomputable def ct(sep:List UInt8):List (List UInt8)->List UInt8
 |[]=>[]
 |[x]=>x
 |x::r=>x++sep++ct sep r
def aiT(H:AH)(o:AV):Bool:=bU false H o λZ Z=>true
def aiZ(H:AH)(o:AV):Bool:=bU false H o λZ Z=>true
def aiV(H:AH)(o:AV):Bool:=aF false o λZ=>true
def ai0(H:AH)(o:AV):Bool:=aF false o λZ=>true
def aiW(H:AH)(o:AV):Bool:=eN false o λZ=>true
def aiX(H:AH)(o:AV):Bool:=gV (gU false H o λZ Z=>true) o λk=>decide (k=3\/k=4\/k=5)
def aiY(H:AH)(o:AV):Bool:=bI false o λZ=>true
def lX(H:AH)(m:MT)(o:AV):Bool:=match m with
 | .append=>aiT H o
 | .pop=>aiZ H o
 | .tZ=>aiV H o
 | .toBytes=>ai0 H o
 | .encode=>aiW H o
 | .get=>aiX H o
 | .join=>aiY H o
noncomputable def ic(i n:Int):Option (List UInt8):=if n=1 then if 0<=i/\i<256 then some [CT i.toNat] else none
 else if n=2 then if 0<=i/\i<65536 then some [CT (i.toNat/256),CT (i.toNat%256)] else none else none
noncomputable def fk(i:Int):Int:=if i=0 then 0 else(i.natAbs.log2+1:Nat)
def acC(H:AH)(o:AV)(vs:List AV):R AV:=cF .bad vs λv=>bU .bad H o λp xs=>au .bad (xs.length<al) (.ok .none (H.set p (.list (xs++[v]))))
def acE(H:AH)(o:AV)(vs:List AV):R AV:=ew .bad vs (bU .bad H o λp xs=>aJ .bad xs.getLast? λv=>.ok v (H.set p (.list xs.dropLast)))
def ajk(H:AH)(o:AV)(vs:List AV):R AV:=ew .bad vs (aF .bad o λi=>au .bad (0<=i) (.ok (.int (fk i)) H))
def ajn(H:AH)(o:AV)(vs:List AV):R AV:=jF .bad vs λn e=>aF .bad o λi=>aF .bad n λn=>eN .bad e λe=>au .bad ((e=="big")=true) (.of ((ic i n).map .bytes) H)
def ajl(H:AH)(o:AV)(vs:List AV):R AV:=cF .bad vs λe=>eN .bad o λs=>eN .bad e λe=>au .bad ((e=="ascii"&&s.cps.toList.all (λc=>decide (c<128))&&decide (s.cps.size<=al))=true) (.ok (.bytes (s.cps.toList.map CT)) H)
def acD(H:AH)(o:AV)(vs:List AV):R AV:=gj .bad vs λk vs=>ew (cF .bad vs λd=>gV (gU .bad H o λZ es=>bI .bad k λk=>.ok (((es.find? λe=>e.1==k).map (·.2)).getD d) H) o
    λg=>au .bad (g=5) (eN .bad k λi=>.ok ((((tabS g).find? λe=>e.1==i).map (·.2)).getD d) H)) vs
   (gV .bad o λg=>au .bad (g=3\/g=4) (aF .bad k λi=>.ok ((((tabI g).find? λe=>e.1==i).map (·.2)).getD .none) H))
def ajm(H:AH)(o:AV)(vs:List AV):R AV:=cF .bad vs λa=>bI .bad o λsep=>bU .bad H a λZ xs=>aJ .bad (uB xs) λbs=>au .bad (2<=bs.length) (jB (ct sep bs) H)
def dW(H:AH)(m:MT)(o:AV)(vs:List AV):R AV:=match m with
 | .append=>acC H o vs
 | .pop=>acE H o vs
 | .tZ=>ajk H o vs
 | .toBytes=>ajn H o vs
 | .encode=>ajl H o vs
 | .get=>acD H o vs
 | .join=>ajm H o vs
noncomputable def aS(H:AH)(src:AV)(j:Nat):Option (Option AV):=match src with
 | .ref p=>match az H p with
  |some xs=>some xs[j]?
  |none=>none
 | .tup vs=>some vs[j]?
 | .bytes b=>some ((b[j]?).map λc=>.int c.toNat)
 | .uP a b c=>some (if a+j*c<b then some (.int (a+j*c)) else none)
 |_=>none
def fg(H:AH)(p q:AV)(j:Nat):Option (Option AV):=bU none H p λZ xs=>bU none H q λZ ys=>some ((xs[j]?).bind λx=>(ys[j]?).map λy=>.tup [x,y])
noncomputable def cJ(H:AH)(src:AV):Nat:=match src with
 | .ref p=>((az H p).getD []).length
 | .tup vs=>vs.length
 | .bytes b=>b.length
 | .uP a b _=>(b-a).toNat
 |_=>0
noncomputable abbrev aB:=List AV
noncomputable def dy:List Nat->List AV->aB->Option aB
 |[],[],ρ=>some ρ
 |i::is,v::vs,ρ=>dy is vs (ρ.set i v)
 |_,_,_=>none
noncomputable def jA(H:AH)(v:AV):Option (List AV):=match v with
 | .tup vs=>some vs
 | .ref p=>az H p
 |_=>none
noncomputable def bz(H:AH)(t:List Nat)(one:Bool)(v:AV)(ρ:aB):Option aB:=match one with
 |true=>dy t [v] ρ
 |false=>(jA H v).bind λvs=>dy t vs ρ
noncomputable def dn(item:AH->Nat->Option (Option AV))(f:AV->AH->R (Option AV)):Nat->Nat->List AV->AH->R (List AV)
 |0,_,_,_=>.bad
 |n+1,j,acc,H=>match item H j with
  |some (some v)=>match f v H with
   | .ok o H=>dn item f n (j+1) (acc++o.toList) H
   |_=>.bad
  |some none=>.ok acc H
  |none=>.bad
inductive Fl where
 |next (ρ:aB)
 |ret (v:AV)
noncomputable def Fl.ctorIdx(a:Fl):Nat:=Fl.casesOn (motive:=λ_=>Nat) a (λ_=>0) λ_=>1
noncomputable def ga(item:AH->Nat->Option (Option AV))(f:AV->aB->AH->R Fl):Nat->Nat->aB->AH->R Fl
 |0,_,_,_=>.bad
 |n+1,j,ρ,H=>match item H j with
  |some (some v)=>(f v ρ H).bind λfl H=>match fl with
   | .next ρ=>ga item f n (j+1) ρ H
   | .ret v=>.ok (.ret v) H
  |some none=>.ok (.next ρ) H
  |none=>.bad
noncomputable def dZ(c:aB->AH->R AV)(f:aB->AH->R Fl):Nat->aB->AH->R Fl
 |0,_,_=>.bad
 |n+1,ρ,H=>(c ρ H).bind λv H=>bN .bad v λr=>if r then(f ρ H).bind λfl H=>match fl with
   | .next ρ=>dZ c f n ρ H
   | .ret v=>.ok (.ret v) H
  else .ok (.next ρ) H
noncomputable def acn:Nat:=40
structure Ctx where
 C:Nat->List AV->AH->R AV
 wf:Nat
 hd:Bool
def nN(v:AV):Bool:=rR false v λc Z=>c==1
noncomputable def ff:AV->Bool
 | .ref _=>true
 |_=>false
noncomputable def fA:AV->Bool
 | .none | .bool _ | .int _ | .str _ | .bytes _=>true
 |_=>false
mutual
noncomputable def ev(Γ:Ctx):PE->Nat->aB->AH->R AV
 | .var i,_,ρ,H=>match ρ[i]? with
  |some .undef=>.bad
  |some (.fn _)=>.bad
  |some v=>.ok v H
  |none=>.bad
 | .glob k,_,_,H=>.ok (lR k) H
 | .s7 i,_,_,H=>.ok (.int i) H
 | .tH s,_,_,H=>.ok (.str s) H
 | .s9 b,_,_,H=>.ok (.bytes b) H
 | .ug b,_,_,H=>.ok (.bool b) H
 | .bin o a b,m,ρ,H=>(ev Γ a m ρ H).bind λx H=>(ev Γ b m ρ H).bind λy H=>dc o x y H
 | .neg a,m,ρ,H=>(ev Γ a m ρ H).bind λx H=>aF .bad x λi=>.ok (.int (-i)) H
 | .not a,m,ρ,H=>(ev Γ a m ρ H).bind λx H=>bN .bad x λb=>.ok (.bool (!b)) H
 | .band es,m,ρ,H=>tX Γ es m ρ H
 | .bor es,m,ρ,H=>vj Γ es m ρ H
 | .cmp a o b,m,ρ,H=>(ev Γ a m ρ H).bind λx H=>(ev Γ b m ρ H).bind λy H=>.of ((bj H o x y).map .bool) H
 | .uE a o b o' c,m,ρ,H=>(ev Γ a m ρ H).bind λx H=>(ev Γ b m ρ H).bind λy H=>aJ .bad (bj H o x y) λr=>if r then(ev Γ c m ρ H).bind λz H=>.of ((bj H o' y z).map .bool) H else .ok (.bool false) H
 | .u5 c a b,m,ρ,H=>(ev Γ c m ρ H).bind λx H=>bN .bad x λr=>if r then ev Γ a m ρ H else ev Γ b m ρ H
 | .list es,m,ρ,H=>(uc Γ es m ρ H).bind λvs H=>cn vs H
 | .tup es,m,ρ,H=>(uc Γ es m ρ H).bind λvs H=>.ok (.tup vs) H
 | .uL,_,_,H=>.ok (.ref H.length) (H++[.dict []])
 | .idx a i,m,ρ,H=>(ev Γ a m ρ H).bind λx H=>(ev Γ i m ρ H).bind λy H=>.of (eJ H x y) H
 | .slice a lo hi st,m,ρ,H=>(ev Γ a m ρ H).bind λx H=>(uc Γ lo m ρ H).bind λl H=>(uc Γ hi m ρ H).bind λu H=>(uc Γ st m ρ H).bind λt H=>dA H x l u t
 | .attr a n,m,ρ,H=>(ev Γ a m ρ H).bind λx H=>.of (lv x n) H
 | .comp elt t one it zip conds,m,ρ,H=>match m with
  |0=>.bad
  |m+1=>(ev Γ it (m+1) ρ H).bind λsrc H=>(uc Γ zip (m+1) ρ H).bind λz H=>
   if Γ.hd&& !(ff src&&z.isEmpty&&one) then .bad else
   (dn (λH j=>match z with
     |[]=>aS H src j
     |[q]=>fg H src q j
     |_=>none)
    (λv H=>match bz H t one v ρ with
     |some ρ'=>(tX Γ conds m ρ' H).bind λc H=>bN .bad c λr=>if r then(ev Γ elt m ρ' H).bind λx H=>.ok (some x) H else .ok none H
     |none=>.bad) (cJ H src+1) 0 [] H).bind λxs H=>cn xs H
 | .call k es,m,ρ,H=>(uc Γ es m ρ H).bind λvs H=>Γ.C k vs H
 | .new c es,m,ρ,H=>if Γ.hd then .bad else(uc Γ es m ρ H).bind λvs H=>if vs.length=3 then .ok (.inst c vs) H else .bad
 | .bi f es,m,ρ,H=>if Γ.hd then .bad else(uc Γ es m ρ H).bind λvs H=>cT H f vs
 | .tN f o es,m,ρ,H=>if Γ.hd then .bad else(ev Γ o m ρ H).bind λx H=>if !lX H f x then .bad else(uc Γ es m ρ H).bind λvs H=>dW H f x vs
 | .most o,m,ρ,H=>(ev Γ o m ρ H).bind λx H=>if nN x then Γ.C acn [x] H else .bad
 | .tB i t8,_,ρ,H=>match ρ[i]? with
  |some (.fn k)=>match t8.mapM λj=>ρ[j]? with
   |some vs=>if k=41/\vs.all fA=true then Γ.C k vs H else .bad
   |none=>.bad
  |_=>.bad
noncomputable def uc(Γ:Ctx):ub->Nat->aB->AH->R (List AV)
 | .nil,_,_,H=>.ok [] H
 | .cons e es,m,ρ,H=>(ev Γ e m ρ H).bind λv H=>(uc Γ es m ρ H).bind λvs H=>.ok (v::vs) H
noncomputable def tX(Γ:Ctx):ub->Nat->aB->AH->R AV
 | .nil,_,_,H=>.ok (.bool true) H
 | .cons e es,m,ρ,H=>(ev Γ e m ρ H).bind λv H=>bN .bad v λr=>if r then tX Γ es m ρ H else .ok (.bool false) H
noncomputable def vj(Γ:Ctx):ub->Nat->aB->AH->R AV
 | .nil,_,_,H=>.ok (.bool false) H
 | .cons e es,m,ρ,H=>(ev Γ e m ρ H).bind λv H=>bN .bad v λr=>if r then .ok (.bool true) H else vj Γ es m ρ H
end
def gZ(H:AH)(x y v:AV):Option AH:=aF (bI none y λk=>gU none H x λp es=>if((es.any λe=>e.1==k)||decide (1000<es.length))=true then none else some (H.set p (.dict (es++[(k,v)])))) y
 λi=>bU none H x λp xs=>au none (0<=i/\i<xs.length) (some (H.set p (.list (xs.set i.toNat v))))
mutual
noncomputable def exec(Γ:Ctx):PS->aB->AH->R Fl
 | .assign t e,ρ,H=>(ev Γ e 4 ρ H).bind λv H=>match t with
  | .var i=>.ok (.next (ρ.set i v)) H
  | .tup is=>if Γ.hd then .bad else match bz H is false v ρ with
   |some ρ=>.ok (.next ρ) H
   |none=>.bad
  | .sub a i=>(ev Γ a 4 ρ H).bind λx H=>(ev Γ i 4 ρ H).bind λy H=>match gZ H x y v with
   |some H=>.ok (.next ρ) H
   |none=>.bad
 | .expr e,ρ,H=>(ev Γ e 4 ρ H).bind λv H=>if fA v then .ok (.next ρ) H else .bad
 | .ret e,ρ,H=>(ev Γ e 4 ρ H).bind λv H=>.ok (.ret v) H
 | .ifs c a b,ρ,H=>(ev Γ c 4 ρ H).bind λv H=>bN .bad v λr=>if r then CE Γ a ρ H else CE Γ b ρ H
 | .uO c b,ρ,H=>dZ (λρ H=>ev Γ c 4 ρ H) (λρ H=>CE Γ b ρ H) Γ.wf ρ H
 | .for t one it b,ρ,H=>if Γ.hd then .bad else(ev Γ it 4 ρ H).bind λsrc H=>
   ga (λH j=>aS H src j) (λv ρ H=>match bz H t one v ρ with
    |some ρ=>CE Γ b ρ H
    |none=>.bad) (cJ H src+1) 0 ρ H
 | .raise k,_,H=>if Γ.hd then .bad else .exc k H
 | .vK e hs,ρ,H=>if Γ.hd||(match hs with | .nil=>true | .cons _ _ _=>false) then .bad else match ev Γ e 4 ρ H with
  | .ok v H=>if fA v then .ok (.next ρ) H else .bad
  | .exc k H=>handle Γ k hs ρ H
  | .bad=>.bad
 | .defn i k,ρ,H=>.ok (.next (ρ.set i (.fn k))) H
noncomputable def CE(Γ:Ctx):tQ->aB->AH->R Fl
 | .nil,ρ,H=>.ok (.next ρ) H
 | .cons s ss,ρ,H=>(exec Γ s ρ H).bind λfl H=>match fl with
  | .next ρ=>CE Γ ss ρ H
  | .ret v=>.ok (.ret v) H
noncomputable def handle(Γ:Ctx)(k:Nat):xv->aB->AH->R Fl
 | .nil,_,_=>.bad
 | .cons j b hs,ρ,H=>if min j 2=min k 2 then CE {Γ with C:=λZ Z Z=>.bad,hd:=true} b ρ H else handle Γ k hs ρ H
end
theorem xo{α:Type _}{a b:Option α}{G:Prop}(h:a=b)(k:a.isSome= !b.isSome):G:=by rw[h] at k;revert k;cases b.isSome<;>nofun
theorem xb{a b:Bool}{G:Prop}(h:a=b)(k:a= !b):G:=by rw[h] at k;revert k;cases b<;>nofun
theorem xr{α:Type}{a b:R α}{G:Prop}(h:a=b)(k:Nat.beq a.ctorIdx b.ctorIdx=false):G:=by rw[h,Nat.beq_refl] at k;cases k
theorem xj{α:Type _}{a b:α}{G:Prop}(h:some a=some b)(k:a=b->G):G:=k (C0 h)
end
local macro_rules (kind:=Lean.Parser.Tactic.cases)|s=>Internal.patC s
section
set_option autoImplicit true
set_option autoImplicit true
theorem E1.var:ev Γ (.var i) m ρ H=(match ρ[i]? with
  |some .undef=>.bad
  |some (.fn _)=>.bad
  |some v=>.ok v H
  |none=>.bad):=rfl
noncomputable def onU{γ:Type}(d:γ)(a:AV)(r:γ):γ:=match a with
 | .undef=>d
 | .fn _=>d
 |_=>r
noncomputable def onK{γ:Type}(d:γ)(a:AV)(f:Nat->γ):γ:=match a with
 | .fn k=>f k
 |_=>d
theorem anU{γ:Type}{C:γ->Prop}{d r:γ}{a:AV}(h:C (onU d a r)):(a≠.undef/\(∀k,a≠.fn k)/\C r)\/C d:=by cases a<;>first |exact .inr h |exact .inl ⟨nofun,nofun,h⟩
theorem anS{γ:Type}{C:γ->Prop}{d:γ}{a:AV}{f:Nat->γ}(h:C (onK d a f)):(∃k,a=.fn k/\C (f k))\/C d:=by cases a<;>first |exact .inr h |exact .inl (ae _ rfl h)
theorem E1.atU:ev Γ (.var i) m ρ H=aJ .bad ρ[i]? λv=>onU .bad v (.ok v H):=by
 rw[E1.var]
 cases ρ[i]? with
 |none=>rfl
 |some v=>cases v<;>rfl
theorem E1.glob:ev Γ (.glob k) m ρ H=(.ok (lR k) H):=rfl
theorem E1.tH:ev Γ (.tH s) m ρ H=(.ok (.str s) H):=rfl
theorem E1.bin:ev Γ (.bin o a b) m ρ H=((ev Γ a m ρ H).bind λx H=>(ev Γ b m ρ H).bind λy H=>dc o x y H):=rfl
theorem E1.neg:ev Γ (.neg a) m ρ H=((ev Γ a m ρ H).bind λx H=>aF .bad x λi=>.ok (.int (-i)) H):=rfl
theorem E1.not:ev Γ (.not a) m ρ H=((ev Γ a m ρ H).bind λx H=>bN .bad x λb=>.ok (.bool (!b)) H):=rfl
theorem E1.band:ev Γ (.band es) m ρ H=(tX Γ es m ρ H):=rfl
theorem E1.bor:ev Γ (.bor es) m ρ H=(vj Γ es m ρ H):=rfl
theorem E1.cmp:ev Γ (.cmp a o b) m ρ H=((ev Γ a m ρ H).bind λx H=>(ev Γ b m ρ H).bind λy H=>.of ((bj H o x y).map .bool) H):=rfl
theorem E1.uE:ev Γ (.uE a o b o' c) m ρ H=((ev Γ a m ρ H).bind λx H=>(ev Γ b m ρ H).bind λy H=>aJ .bad (bj H o x y) λr=>if r then(ev Γ c m ρ H).bind λz H=>.of ((bj H o' y z).map .bool) H else .ok (.bool false) H):=rfl
theorem E1.u5:ev Γ (.u5 c a b) m ρ H=((ev Γ c m ρ H).bind λx H=>bN .bad x λr=>if r then ev Γ a m ρ H else ev Γ b m ρ H):=rfl
theorem E1.list:ev Γ (.list es) m ρ H=((uc Γ es m ρ H).bind λvs H=>cn vs H):=rfl
theorem E1.tup:ev Γ (.tup es) m ρ H=((uc Γ es m ρ H).bind λvs H=>.ok (.tup vs) H):=rfl
theorem E1.uL:ev Γ .uL m ρ H=(.ok (.ref H.length) (H++[.dict []])):=rfl
theorem E1.idx:ev Γ (.idx a i) m ρ H=((ev Γ a m ρ H).bind λx H=>(ev Γ i m ρ H).bind λy H=>.of (eJ H x y) H):=rfl
theorem E1.slice:ev Γ (.slice a l0 h0 s0) m ρ H=((ev Γ a m ρ H).bind λx H=>(uc Γ l0 m ρ H).bind λl H=>(uc Γ h0 m ρ H).bind λu H=>(uc Γ s0 m ρ H).bind λt H=>dA H x l u t):=rfl
theorem E1.attr:ev Γ (.attr a n) m ρ H=((ev Γ a m ρ H).bind λx H=>.of (lv x n) H):=rfl
theorem E1.arW:ev Γ (.comp elt t one it zip conds) 0 ρ H=(.bad):=rfl
theorem E1.comp:ev Γ (.comp elt t one it zip conds) (m+1) ρ H=((ev Γ it (m+1) ρ H).bind λsrc H=>(uc Γ zip (m+1) ρ H).bind λz H=>
   if Γ.hd&& !(ff src&&z.isEmpty&&one) then .bad else
   (dn (λH j=>match z with
     |[]=>aS H src j
     |[q]=>fg H src q j
     |_=>none)
    (λv H=>match bz H t one v ρ with
     |some ρ'=>(tX Γ conds m ρ' H).bind λc H=>bN .bad c λr=>if r then(ev Γ elt m ρ' H).bind λx H=>.ok (some x) H else .ok none H
     |none=>.bad) (cJ H src+1) 0 [] H).bind λxs H=>cn xs H):=rfl
theorem E1.call:ev Γ (.call k es) m ρ H=((uc Γ es m ρ H).bind λvs H=>Γ.C k vs H):=rfl
theorem E1.new:ev Γ (.new c es) m ρ H=(if Γ.hd then .bad else(uc Γ es m ρ H).bind λvs H=>if vs.length=3 then .ok (.inst c vs) H else .bad):=rfl
theorem E1.bi:ev Γ (.bi f es) m ρ H=(if Γ.hd then .bad else(uc Γ es m ρ H).bind λvs H=>cT H f vs):=rfl
theorem E1.tN:ev Γ (.tN f o es) m ρ H=(if Γ.hd then .bad else(ev Γ o m ρ H).bind λx H=>if !lX H f x then .bad else(uc Γ es m ρ H).bind λvs H=>dW H f x vs):=rfl
theorem E1.most:ev Γ (.most o) m ρ H=((ev Γ o m ρ H).bind λx H=>if nN x then Γ.C acn [x] H else .bad):=rfl
theorem E1.tB:ev Γ (.tB i t8) m ρ H=(match ρ[i]? with
  |some (.fn k)=>match t8.mapM λj=>ρ[j]? with
   |some vs=>if k=41/\vs.all fA=true then Γ.C k vs H else .bad
   |none=>.bad
  |_=>.bad):=rfl
theorem E1.ar7:ev Γ (.tB i t8) m ρ H=aJ .bad ρ[i]? λv=>onK .bad v λk=>aJ .bad (t8.mapM λj=>ρ[j]?) λvs=>if k=41/\vs.all fA=true then Γ.C k vs H else .bad:=by
 rw[E1.tB]
 cases ρ[i]? with
 |none=>rfl
 |some v=>
  cases v with
  |fn k=>dsimp only;show _=aJ R.bad (t8.mapM λj=>ρ[j]?) _;cases t8.mapM λj=>ρ[j]? <;>rfl
  |_=>rfl
theorem E2.nil:uc Γ .nil m ρ H=(.ok [] H):=rfl
theorem E2.cons:uc Γ (.cons e es) m ρ H=((ev Γ e m ρ H).bind λv H=>(uc Γ es m ρ H).bind λvs H=>.ok (v::vs) H):=rfl
theorem E3.cons:tX Γ (.cons e es) m ρ H=((ev Γ e m ρ H).bind λv H=>bN .bad v λr=>if r then tX Γ es m ρ H else .ok (.bool false) H):=rfl
theorem E4.cons:vj Γ (.cons e es) m ρ H=((ev Γ e m ρ H).bind λv H=>bN .bad v λr=>if r then .ok (.bool true) H else vj Γ es m ρ H):=rfl
theorem E5.assign:exec Γ (.assign t e) ρ H=((ev Γ e 4 ρ H).bind λv H=>match t with
  | .var i=>.ok (.next (ρ.set i v)) H
  | .tup is=>if Γ.hd then .bad else match bz H is false v ρ with
   |some ρ=>.ok (.next ρ) H
   |none=>.bad
  | .sub a i=>(ev Γ a 4 ρ H).bind λx H=>(ev Γ i 4 ρ H).bind λy H=>match gZ H x y v with
   |some H=>.ok (.next ρ) H
   |none=>.bad):=rfl
theorem E5.expr:exec Γ (.expr e) ρ H=((ev Γ e 4 ρ H).bind λv H=>if fA v then .ok (.next ρ) H else .bad):=rfl
theorem E5.ret:exec Γ (.ret e) ρ H=((ev Γ e 4 ρ H).bind λv H=>.ok (.ret v) H):=rfl
theorem E5.ifs:exec Γ (.ifs c a b) ρ H=((ev Γ c 4 ρ H).bind λv H=>bN .bad v λr=>if r then CE Γ a ρ H else CE Γ b ρ H):=rfl
theorem E5.uO:exec Γ (.uO c b) ρ H=(dZ (λρ H=>ev Γ c 4 ρ H) (λρ H=>CE Γ b ρ H) Γ.wf ρ H):=rfl
theorem E5.for:exec Γ (.for t one it b) ρ H=(if Γ.hd then .bad else(ev Γ it 4 ρ H).bind λsrc H=>
   ga (λH j=>aS H src j) (λv ρ H=>match bz H t one v ρ with
    |some ρ=>CE Γ b ρ H
    |none=>.bad) (cJ H src+1) 0 ρ H):=rfl
theorem E5.raise:exec Γ (.raise k) ρ H=(if Γ.hd then .bad else .exc k H):=rfl
theorem E5.vK:exec Γ (.vK e hs) ρ H=(if Γ.hd||(match hs with | .nil=>true | .cons _ _ _=>false) then .bad else match ev Γ e 4 ρ H with
  | .ok v H=>if fA v then .ok (.next ρ) H else .bad
  | .exc k H=>handle Γ k hs ρ H
  | .bad=>.bad):=rfl
theorem E5.defn:exec Γ (.defn i k) ρ H=(.ok (.next (ρ.set i (.fn k))) H):=rfl
theorem E6.nil:CE Γ .nil ρ H=(.ok (.next ρ) H):=rfl
theorem E6.cons:CE Γ (.cons s ss) ρ H=((exec Γ s ρ H).bind λfl H=>match fl with
  | .next ρ=>CE Γ ss ρ H
  | .ret v=>.ok (.ret v) H):=rfl
theorem E7.nil:handle Γ k .nil ρ H=(.bad):=rfl
theorem E7.cons:handle Γ k (.cons j b hs) ρ H=(if min j 2=min k 2 then CE {Γ with C:=λZ Z Z=>.bad,hd:=true} b ρ H else handle Γ k hs ρ H):=rfl
theorem E8.s:ga g f (n+1) j ρ H=(match g H j with
  |some (some v)=>(f v ρ H).bind λfl H=>match fl with
   | .next ρ=>ga g f n (j+1) ρ H
   | .ret v=>.ok (.ret v) H
  |some none=>.ok (.next ρ) H
  |none=>.bad):=rfl
theorem E9.s:dZ c f (n+1) ρ H=((c ρ H).bind λv H=>bN .bad v λr=>if r then(f ρ H).bind λfl H=>match fl with
   | .next ρ=>dZ c f n ρ H
   | .ret v=>.ok (.ret v) H
  else .ok (.next ρ) H):=rfl
theorem Aa.s:dn g f (n+1) j acc H=(match g H j with
  |some (some v)=>match f v H with
   | .ok o H=>dn g f n (j+1) (acc++o.toList) H
   |_=>.bad
  |some none=>.ok acc H
  |none=>.bad):=rfl
theorem abl{h:dn g f (n+1) j acc H=.ok xs HF}:(g H j=some none/\xs=acc/\HF=H)\/∃v o H1,g H j=some (some v)/\f v H=.ok o H1/\dn g f n (j+1) (acc++o.toList) H1=.ok xs HF:=by
 rw[Aa.s] at h
 cases q:g H j with
 |none=>rw[q] at h;cases h
 |some r=>
  rw[q] at h
  cases r with
  |none=>cases h;exact .inl ⟨rfl,rfl,rfl⟩
  |some v=>
   dsimp only at h
   cases p:f v H with
   |ok o H1=>rw[p] at h;exact .inr (bZ v o H1 rfl p h)
   |exc=>rw[p] at h;cases h
   |bad=>rw[p] at h;cases h
theorem E1.asm:ev Γ (.comp elt t one it (.cons xG .nil) conds) (m+1) ρ H=(uc Γ (.cons it (.cons xG .nil)) (m+1) ρ H).bind λvs H=>jF .bad vs λsrc q=>if Γ.hd=true then .bad else
   (dn (λH j=>fg H src q j) (λv H=>match bz H t one v ρ with
     |some ρ'=>(tX Γ conds m ρ' H).bind λc H=>bN .bad c λr=>if r then(ev Γ elt m ρ' H).bind λx H=>.ok (some x) H else .ok none H
     |none=>.bad) (cJ H src+1) 0 [] H).bind λxs H=>cn xs H:=by
 rw[E1.comp,E2.cons]
 cases ev Γ it (m+1) ρ H with
 |ok src H1=>
  show R.bind (uc Γ (.cons xG .nil) (m+1) ρ H1) _=R.bind (R.bind (uc Γ (.cons xG .nil) (m+1) ρ H1) _) _;rw[E2.cons]
  cases ev Γ xG (m+1) ρ H1 with
  |ok q H2=>
   show(if(Γ.hd&& !(ff src&&[q].isEmpty&&one))=true then R.bad else _)=_
   rw[show(Γ.hd&& !(ff src&&[q].isEmpty&&one))=Γ.hd by rw[show [q].isEmpty=false from rfl,HG,HI];exact IB _];rfl
  |exc=>rfl
  |bad=>rfl
 |exc=>rfl
 |bad=>rfl
theorem R.wa{α β:Type}{r:R α}{f:α->AH->R β}{b:β}{H':AH}(h:r.bind f=.ok b H'):∃a H1,r=.ok a H1/\f a H1=.ok b H':=by
 cases r with
 |ok a H1=>exact(bR a H1 rfl h)
 |exc _ _=>cases h
 |bad=>cases h
end
variable {B h B' h':CF}{μ th:List Cz}{H H':AH}{A:Around}{E Q:Cy->CC->Prop}{env:Env}{pos p np:Pos}{prog:Program}{k j q nv:Nat}{ρ ρ':aB}{x:Str}{α β γ:Type}{vs:List AV}{tf cs rest:List Cy}{P C it L:Cz}{cv cx cy c0 c1 c2 self:Cy}{ps conds:ub}{M:Model}{l tg vq target:CD}{body:List Stmt}{xs:List Str}{K:Frag}{pe elt:PE}{src:AV}{sc:Scope}{one oc:Bool}{fd:FuncData}{st:Stmt}{Γ:Ctx}{ns:List Int}{ao:AO}{fs:List CD}{u:Tok}{outer:List Env}{ob oe:Obj}{bd ss:tQ}{pl:Sem Bool}{os:OsState}
section
set_option autoImplicit true
noncomputable def afF:tQ:=(.cons (.ret (.call 2 (.cons (.attr (.var 0) 4) .nil))) .nil)
noncomputable def afy:tQ:=(.cons (.ret (.bin .sub (.bin .shl (.s7 1) (.var 0)) (.s7 1))) .nil)
noncomputable def aaH:tQ:=(.cons (.ret (.band (.cons (.cmp (.attr (.var 0) 0) .eq (.attr (.var 1) 0)) (.cons (.cmp (.attr (.var 0) 1) .eq (.attr (.var 1) 1)) (.cons (.cmp (.attr (.var 0) 2) .eq (.attr (.var 1) 2)) .nil))))) .nil)
noncomputable def qh:tQ:=(.cons (.ifs (.bor (.cons (.cmp (.attr (.var 0) 3) .ne (.attr (.var 1) 3)) (.cons (.cmp (.attr (.var 0) 4) .ne (.attr (.var 1) 4)) (.cons (.cmp (.bi .len (.cons (.attr (.var 0) 5) .nil)) .ne (.bi .len (.cons (.attr (.var 1) 5) .nil))) .nil)))) (.cons (.ret (.ug false)) .nil) .nil) (.cons (.ret (.bi .all (.cons (.comp (.call 3 (.cons (.var 2) (.cons (.var 3) .nil))) [2,3] false (.attr (.var 0) 5) (.cons (.attr (.var 1) 5) .nil) .nil) .nil))) .nil))
noncomputable def aaF:tQ:=(.cons (.ifs (.bor (.cons (.cmp (.attr (.var 0) 0) .lt (.s7 1)) (.cons (.cmp (.attr (.var 0) 1) .lt (.s7 1)) (.cons (.cmp (.bi .len (.cons (.attr (.var 0) 2) .nil)) .ne (.attr (.var 0) 1)) .nil)))) (.cons (.raise 2) .nil) .nil) (.cons (.assign (.var 2) (.call 2 (.cons (.var 1) .nil))) (.cons (.for [3] true (.attr (.var 0) 2) (.cons (.ifs (.cmp (.bi .len (.cons (.var 3) .nil)) .ne (.attr (.var 0) 0)) (.cons (.raise 2) .nil) .nil) (.cons (.for [4] true (.var 3) (.cons (.ifs (.bor (.cons (.not (.bi .isInt (.cons (.var 4) .nil))) (.cons (.cmp (.var 4) .lt (.s7 0)) (.cons (.cmp (.var 4) .gt (.var 2)) .nil)))) (.cons (.raise 2) .nil) .nil) .nil)) .nil))) .nil)))
noncomputable def aaE:tQ:=(.cons (.ifs (.bor (.cons (.cmp (.attr (.var 0) 4) .lt (.s7 2)) (.cons (.cmp (.attr (.var 0) 4) .gt (.s7 16)) (.cons (.cmp (.attr (.var 0) 5) .eq (.list .nil)) .nil)))) (.cons (.raise 2) .nil) .nil) (.cons (.ifs (.cmp (.attr (.var 0) 3) .ne (.tH "raw")) (.cons (.ifs (.cmp (.tN .get (.glob 5) (.cons (.attr (.var 0) 3) (.cons (.s7 0) .nil))) .ne (.bi .len (.cons (.attr (.var 0) 5) .nil))) (.cons (.raise 2) .nil) .nil) (.cons (.assign (.var 1) (.idx (.attr (.var 0) 5) (.s7 0))) (.cons (.for [2] true (.attr (.var 0) 5) (.cons (.ifs (.bor (.cons (.cmp (.attr (.var 2) 0) .ne (.attr (.var 1) 0)) (.cons (.cmp (.attr (.var 2) 1) .ne (.attr (.var 1) 1)) .nil))) (.cons (.raise 2) .nil) .nil) .nil)) .nil))) .nil) (.cons (.for [2] true (.attr (.var 0) 5) (.cons (.expr (.call 5 (.cons (.var 2) (.cons (.attr (.var 0) 4) .nil)))) .nil)) .nil)))
noncomputable def qf:tQ:=(.cons (.assign (.var 4) (.list .nil)) (.cons (.for [5] true (.bi .range (.cons (.var 3) .nil)) (.cons (.assign (.var 6) (.list .nil)) (.cons (.for [7] true (.bi .range (.cons (.var 2) .nil)) (.cons (.assign (.var 8) (.bin .add (.bin .mul (.bin .mul (.var 7) (.var 1)) (.var 3)) (.var 5))) (.cons (.expr (.tN .append (.var 6) (.cons (.bi .list (.cons (.slice (.var 0) (.cons (.var 8) .nil) (.cons (.bin .add (.var 8) (.bin .mul (.var 1) (.var 3))) .nil) (.cons (.var 3) .nil)) .nil)) .nil))) .nil))) (.cons (.expr (.tN .append (.var 4) (.cons (.new 0 (.cons (.var 1) (.cons (.var 2) (.cons (.var 6) .nil)))) .nil))) .nil)))) (.cons (.ret (.var 4)) .nil)))
noncomputable def qj:tQ:=(.cons (.assign (.var 1) (.list .nil)) (.cons (.for [2] true (.bi .range (.cons (.attr (.idx (.var 0) (.s7 0)) 1) .nil)) (.cons (.for [3] true (.bi .range (.cons (.attr (.idx (.var 0) (.s7 0)) 0) .nil)) (.cons (.for [4] true (.var 0) (.cons (.expr (.tN .append (.var 1) (.cons (.idx (.idx (.attr (.var 4) 2) (.var 2)) (.var 3)) .nil))) .nil)) .nil)) .nil)) (.cons (.ret (.var 1)) .nil)))
noncomputable def jW:tQ:=(.cons (.assign (.var 4) (.bin .add (.s7 1) (.bi .int (.cons (.cmp (.var 3) .gt (.s7 8)) .nil)))) (.cons (.ifs (.cmp (.bin .add (.var 1) (.bin .mul (.var 2) (.var 4))) .gt (.bi .len (.cons (.var 0) .nil))) (.cons (.raise 1) .nil) .nil) (.cons (.ifs (.cmp (.var 4) .eq (.s7 1)) (.cons (.assign (.var 5) (.bi .list (.cons (.slice (.var 0) (.cons (.var 1) .nil) (.cons (.bin .add (.var 1) (.var 2)) .nil) .nil) .nil))) .nil) (.cons (.assign (.var 5) (.comp (.bin .add (.bin .mul (.idx (.var 0) (.var 6)) (.s7 256)) (.idx (.var 0) (.bin .add (.var 6) (.s7 1)))) [6] true (.bi .range (.cons (.var 1) (.cons (.bin .add (.var 1) (.bin .mul (.s7 2) (.var 2))) (.cons (.s7 2) .nil)))) .nil .nil)) .nil)) (.cons (.ifs (.cmp (.bi .max (.cons (.var 5) .nil)) .ge (.bin .pow (.s7 2) (.var 3))) (.cons (.raise 2) .nil) .nil) (.cons (.ret (.var 5)) .nil)))))
noncomputable def qk:tQ:=(.cons (.ifs (.cmp (.var 1) .le (.s7 8)) (.cons (.ret (.bi .bytes (.cons (.var 0) .nil))) .nil) .nil) (.cons (.assign (.var 2) (.bi .bytearray .nil)) (.cons (.for [3] true (.var 0) (.cons (.expr (.tN .append (.var 2) (.cons (.bin .fdiv (.var 3) (.s7 256)) .nil))) (.cons (.expr (.tN .append (.var 2) (.cons (.bin .mod (.var 3) (.s7 256)) .nil))) .nil))) (.cons (.ret (.bi .bytes (.cons (.var 2) .nil))) .nil))))
noncomputable def afH:tQ:=(.cons (.uO (.band (.cons (.cmp (.var 1) .lt (.bi .len (.cons (.var 0) .nil))) (.cons (.bor (.cons (.cmp (.idx (.var 0) (.var 1)) .isin (.glob 0)) (.cons (.cmp (.idx (.var 0) (.var 1)) .eq (.s7 35)) .nil))) .nil))) (.cons (.ifs (.cmp (.idx (.var 0) (.var 1)) .eq (.s7 35)) (.cons (.uO (.band (.cons (.cmp (.var 1) .lt (.bi .len (.cons (.var 0) .nil))) (.cons (.cmp (.idx (.var 0) (.var 1)) .ne (.s7 10)) .nil))) (.cons (.assign (.var 1) (.bin .add (.var 1) (.s7 1))) .nil)) .nil) (.cons (.assign (.var 1) (.bin .add (.var 1) (.s7 1))) .nil)) .nil)) (.cons (.ret (.var 1)) .nil))
noncomputable def mT:tQ:=(.cons (.assign (.var 1) (.call 11 (.cons (.var 0) (.cons (.var 1) .nil)))) (.cons (.assign (.var 2) (.var 1)) (.cons (.uO (.band (.cons (.cmp (.var 2) .lt (.bi .len (.cons (.var 0) .nil))) (.cons (.cmp (.idx (.var 0) (.var 2)) .ui (.glob 0)) (.cons (.cmp (.idx (.var 0) (.var 2)) .ne (.s7 35)) .nil)))) (.cons (.assign (.var 2) (.bin .add (.var 2) (.s7 1))) .nil)) (.cons (.ifs (.cmp (.var 2) .eq (.var 1)) (.cons (.raise 1) .nil) .nil) (.cons (.ret (.tup (.cons (.bi .bytes (.cons (.slice (.var 0) (.cons (.var 1) .nil) (.cons (.var 2) .nil) .nil) .nil)) (.cons (.var 2) .nil)))) .nil)))))
noncomputable def qe:tQ:=(.cons (.ifs (.bor (.cons (.cmp (.bi .len (.cons (.var 0) .nil)) .gt (.glob 1)) (.cons (.not (.bi .all (.cons (.comp (.uE (.s7 48) .le (.var 3) .le (.s7 57)) [3] true (.var 0) .nil .nil) .nil))) .nil))) (.cons (.raise 2) .nil) .nil) (.cons (.assign (.var 2) (.s7 0)) (.cons (.for [1] true (.var 0) (.cons (.assign (.var 2) (.bin .sub (.bin .add (.bin .mul (.var 2) (.s7 10)) (.var 1)) (.s7 48))) .nil)) (.cons (.ret (.var 2)) .nil))))
noncomputable def qg:tQ:=(.cons (.assign (.var 1) (.tN .tZ (.var 0) .nil)) (.cons (.ifs (.bor (.cons (.not (.uE (.s7 2) .le (.var 1) .le (.s7 16))) (.cons (.cmp (.var 0) .ne (.bin .sub (.bin .pow (.s7 2) (.var 1)) (.s7 1))) .nil))) (.cons (.raise 2) .nil) .nil) (.cons (.ret (.var 1)) .nil)))
noncomputable def mR:tQ:=(.cons (.ifs (.bor (.cons (.not (.uE (.s7 1) .le (.var 0) .le (.s7 65535))) (.cons (.not (.uE (.s7 1) .le (.var 1) .le (.s7 65535))) .nil))) (.cons (.raise 2) .nil) .nil) .nil)
noncomputable def mU:tQ:=(.cons (.assign (.var 1) .uL) (.cons (.assign (.tup [2,3]) (.call 12 (.cons (.var 0) (.cons (.s7 2) .nil)))) (.cons (.uO (.cmp (.var 2) .ne (.s9 [69,78,68,72,68,82])) (.cons (.ifs (.bor (.cons (.cmp (.var 2) .isin (.var 1)) (.cons (.band (.cons (.cmp (.var 2) .ui (.glob 2)) (.cons (.cmp (.var 2) .ne (.s9 [84,85,80,76,84,89,80,69])) .nil))) .nil))) (.cons (.raise 2) .nil) .nil) (.cons (.assign (.tup [4,3]) (.call 12 (.cons (.var 0) (.cons (.var 3) .nil)))) (.cons (.assign (.sub (.var 1) (.var 2)) (.var 4)) (.cons (.assign (.tup [2,3]) (.call 12 (.cons (.var 0) (.cons (.var 3) .nil)))) .nil))))) (.cons (.ret (.tup (.cons (.var 1) (.cons (.var 3) .nil)))) .nil))))
noncomputable def fV:tQ:=(.cons (.ifs (.cmp (.bi .bytes (.cons (.slice (.var 0) .nil (.cons (.s7 2) .nil) .nil) .nil)) .ne (.s9 [80,55])) (.cons (.raise 0) .nil) .nil) (.cons (.assign (.tup [1,2]) (.call 16 (.cons (.var 0) .nil))) (.cons (.assign (.var 3) (.list .nil)) (.cons (.for [4] true (.glob 2) (.cons (.ifs (.cmp (.var 4) .ui (.var 1)) (.cons (.raise 2) .nil) .nil) (.cons (.expr (.tN .append (.var 3) (.cons (.call 13 (.cons (.idx (.var 1) (.var 4)) .nil)) .nil))) .nil))) (.cons (.assign (.tup [5,6,7,8]) (.var 3)) (.cons (.expr (.call 15 (.cons (.var 5) (.cons (.var 6) .nil)))) (.cons (.ifs (.bor (.cons (.cmp (.var 7) .ui (.glob 3)) (.cons (.cmp (.tN .get (.var 1) (.cons (.s9 [84,85,80,76,84,89,80,69]) (.cons (.idx (.glob 3) (.var 7)) .nil))) .ne (.idx (.glob 3) (.var 7))) .nil))) (.cons (.raise 2) .nil) .nil) (.cons (.assign (.var 9) (.call 14 (.cons (.var 8) .nil))) (.cons (.assign (.var 10) (.call 9 (.cons (.var 0) (.cons (.bin .add (.var 2) (.s7 1)) (.cons (.bin .mul (.bin .mul (.var 5) (.var 6)) (.var 7)) (.cons (.var 9) .nil)))))) (.cons (.ret (.new 1 (.cons (.idx (.glob 4) (.var 7)) (.cons (.var 9) (.cons (.call 7 (.cons (.var 10) (.cons (.var 5) (.cons (.var 6) (.cons (.var 7) .nil))))) .nil))))) .nil))))))))))
noncomputable def jg:tQ:=(.cons (.expr (.call 6 (.cons (.var 0) .nil))) (.cons (.assign (.tup [1,2]) (.tup (.cons (.idx (.attr (.var 0) 5) (.s7 0)) (.cons (.bi .len (.cons (.attr (.var 0) 5) .nil)) .nil)))) (.cons (.ifs (.cmp (.tN .get (.glob 4) (.cons (.var 2) .nil)) .ne (.attr (.var 0) 3)) (.cons (.raise 2) .nil) .nil) (.cons (.assign (.var 3) (.list (.cons (.s9 [80,55]) .nil))) (.cons (.assign (.var 4) (.list (.cons (.attr (.var 1) 0) (.cons (.attr (.var 1) 1) (.cons (.var 2) (.cons (.most (.var 0)) .nil)))))) (.cons (.for [5] true (.bi .range (.cons (.bi .len (.cons (.glob 2) .nil)) .nil)) (.cons (.expr (.tN .append (.var 3) (.cons (.bin .add (.bin .add (.idx (.glob 2) (.var 5)) (.s9 [32])) (.tN .encode (.bi .str (.cons (.idx (.var 4) (.var 5)) .nil)) (.cons (.tH "ascii") .nil))) .nil))) .nil)) (.cons (.assign (.var 3) (.bin .add (.var 3) (.list (.cons (.bin .add (.s9 [84,85,80,76,84,89,80,69,32]) (.idx (.glob 3) (.var 2))) (.cons (.s9 [69,78,68,72,68,82]) (.cons (.s9 []) .nil)))))) (.cons (.ret (.bin .add (.tN .join (.s9 [10]) (.cons (.var 3) .nil)) (.call 10 (.cons (.call 8 (.cons (.attr (.var 0) 5) .nil)) (.cons (.attr (.var 0) 4) .nil))))) .nil))))))))
noncomputable def aaG:tQ:=(.cons (.assign (.var 1) (.u5 (.cmp (.bi .len (.cons (.var 0) .nil)) .gt (.s7 0)) (.bi .int (.cons (.idx (.var 0) (.s7 0)) .nil)) (.s7 0))) (.cons (.assign (.var 2) (.u5 (.cmp (.var 1) .ge (.s7 0)) (.var 1) (.bin .sub (.s7 1) (.var 1)))) (.cons (.ret (.list (.cons (.u5 (.cmp (.var 2) .ge (.bin .pow (.s7 10) (.s7 18))) (.var 2) (.s7 0)) (.cons (.bin .add (.bin .mul (.bin .mod (.var 2) (.s7 1000003)) (.s7 31)) (.s7 11)) .nil)))) .nil)))
noncomputable def pZ:tQ:=(.cons (.ifs (.cmp (.idx (.var 0) (.s7 0)) .gt (.s7 0)) (.cons (.assign (.var 2) (.bin .mod (.idx (.var 0) (.s7 0)) (.var 1))) (.cons (.assign (.sub (.var 0) (.s7 0)) (.bin .fdiv (.idx (.var 0) (.s7 0)) (.var 1))) (.cons (.ret (.var 2)) .nil))) .nil) (.cons (.assign (.sub (.var 0) (.s7 1)) (.bin .mod (.bin .add (.bin .mul (.idx (.var 0) (.s7 1)) (.s7 16807)) (.s7 47)) (.s7 2147483647))) (.cons (.ret (.bin .mod (.bin .fdiv (.idx (.var 0) (.s7 1)) (.s7 24)) (.var 1))) .nil)))
noncomputable def pV:tQ:=(.cons (.assign (.var 1) (.idx (.list (.cons (.s9 [32]) (.cons (.s9 [9]) (.cons (.s9 [10]) (.cons (.s9 [11]) (.cons (.s9 [12]) (.cons (.s9 [13]) (.cons (.s9 [35,10]) (.cons (.s9 [35,32,87,73,68,84,72,32,55,32,35,10]) .nil))))))))) (.call 20 (.cons (.var 0) (.cons (.s7 8) .nil))))) (.cons (.ret (.bin .add (.var 1) (.idx (.list (.cons (.s9 []) (.cons (.s9 [32]) (.cons (.s9 [13,10]) (.cons (.s9 [35,120,10]) .nil))))) (.call 20 (.cons (.var 0) (.cons (.s7 4) .nil)))))) .nil))
noncomputable def p9:tQ:=(.cons (.assign (.var 2) (.idx (.list (.cons (.s7 1) (.cons (.s7 3) (.cons (.s7 4) .nil)))) (.call 20 (.cons (.var 0) (.cons (.s7 3) .nil))))) (.cons (.assign (.tup [3,4,5]) (.tup (.cons (.bin .add (.s7 1) (.call 20 (.cons (.var 0) (.cons (.s7 3) .nil)))) (.cons (.bin .add (.s7 1) (.call 20 (.cons (.var 0) (.cons (.s7 3) .nil)))) (.cons (.list .nil) .nil))))) (.cons (.assign (.var 6) (.list (.cons (.s7 0) (.cons (.s7 1) (.cons (.s7 10) (.cons (.s7 32) (.cons (.s7 35) (.cons (.bin .sub (.bin .pow (.s7 2) (.var 1)) (.s7 1)) (.cons (.bin .fdiv (.bin .pow (.s7 2) (.var 1)) (.s7 3)) .nil))))))))) (.cons (.for [7] true (.bi .range (.cons (.var 2) .nil)) (.cons (.assign (.var 8) (.comp (.comp (.bi .min (.cons (.idx (.var 6) (.call 20 (.cons (.var 0) (.cons (.s7 7) .nil)))) (.cons (.bin .sub (.bin .pow (.s7 2) (.var 1)) (.s7 1)) .nil))) [10] true (.bi .range (.cons (.var 3) .nil)) .nil .nil) [9] true (.bi .range (.cons (.var 4) .nil)) .nil .nil)) (.cons (.expr (.tN .append (.var 5) (.cons (.new 0 (.cons (.var 3) (.cons (.var 4) (.cons (.var 8) .nil)))) .nil))) .nil))) (.cons (.ret (.new 1 (.cons (.idx (.list (.cons (.tH "grey") (.cons (.tH "") (.cons (.tH "rgb") (.cons (.tH "cmyk") .nil))))) (.bin .sub (.var 2) (.s7 1))) (.cons (.var 1) (.cons (.var 5) .nil))))) .nil)))))
noncomputable def qd:tQ:=(.cons (.assign (.tup [2,3]) (.tup (.cons (.idx (.attr (.var 1) 5) (.s7 0)) (.cons (.bi .len (.cons (.attr (.var 1) 5) .nil)) .nil)))) (.cons (.assign (.var 4) (.list (.cons (.tup (.cons (.s9 [87,73,68,84,72]) (.cons (.attr (.var 2) 0) .nil))) (.cons (.tup (.cons (.s9 [72,69,73,71,72,84]) (.cons (.attr (.var 2) 1) .nil))) (.cons (.tup (.cons (.s9 [68,69,80,84,72]) (.cons (.var 3) .nil))) (.cons (.tup (.cons (.s9 [77,65,88,86,65,76]) (.cons (.bin .sub (.bin .pow (.s7 2) (.attr (.var 1) 4)) (.s7 1)) .nil))) .nil)))))) (.cons (.assign (.var 5) (.comp (.tup (.cons (.var 7) (.cons (.tN .encode (.bi .str (.cons (.var 8) .nil)) (.cons (.tH "ascii") .nil)) .nil))) [7,8] false (.var 4) .nil .nil)) (.cons (.ifs (.cmp (.call 20 (.cons (.var 0) (.cons (.s7 3) .nil))) .gt (.s7 0)) (.cons (.expr (.tN .append (.var 5) (.cons (.tup (.cons (.s9 [84,85,80,76,84,89,80,69]) (.cons (.idx (.list (.cons (.s9 [71,82,65,89,83,67,65,76,69]) (.cons (.s9 []) (.cons (.s9 [82,71,66]) (.cons (.s9 [67,77,89,75]) .nil))))) (.bin .sub (.var 3) (.s7 1))) .nil))) .nil))) .nil) .nil) (.cons (.assign (.var 6) (.call 20 (.cons (.var 0) (.cons (.bi .len (.cons (.var 5) .nil)) .nil)))) (.cons (.ret (.bin .add (.slice (.var 5) (.cons (.var 6) .nil) .nil .nil) (.slice (.var 5) .nil (.cons (.var 6) .nil) .nil))) .nil))))))
noncomputable def pW:tQ:=(.cons (.assign (.tup [2,3]) (.tup (.cons (.s9 [80,55]) (.cons (.list .nil) .nil)))) (.cons (.for [4,5] false (.bin .add (.var 1) (.list (.cons (.tup (.cons (.s9 [69,78,68,72,68,82]) (.cons (.s9 []) .nil))) .nil))) (.cons (.for [6] true (.slice (.list (.cons (.var 4) (.cons (.var 5) .nil))) .nil (.cons (.bin .add (.s7 1) (.bi .int (.cons (.cmp (.var 4) .ne (.s9 [69,78,68,72,68,82])) .nil))) .nil) .nil) (.cons (.assign (.var 7) (.call 21 (.cons (.var 0) .nil))) (.cons (.expr (.tN .append (.var 3) (.cons (.tup (.cons (.bin .add (.bi .len (.cons (.var 2) .nil)) (.bi .len (.cons (.var 7) .nil))) (.cons (.bin .add (.bin .add (.bi .len (.cons (.var 2) .nil)) (.bi .len (.cons (.var 7) .nil))) (.bi .len (.cons (.var 6) .nil))) .nil))) .nil))) (.cons (.assign (.var 2) (.bin .add (.bin .add (.var 2) (.var 7)) (.var 6))) .nil)))) .nil)) (.cons (.ret (.tup (.cons (.bin .add (.var 2) (.idx (.list (.cons (.s9 [32]) (.cons (.s9 [9]) (.cons (.s9 [10]) (.cons (.s9 [11]) (.cons (.s9 [12]) (.cons (.s9 [13]) (.cons (.s9 [35]) .nil)))))))) (.call 20 (.cons (.var 0) (.cons (.s7 7) .nil))))) (.cons (.var 3) .nil)))) .nil)))
noncomputable def qc:tQ:=(.cons (.assign (.tup [1,2]) (.tup (.cons (.s9 []) (.cons (.u5 (.cmp (.attr (.var 0) 4) .lt (.s7 9)) (.s7 1) (.s7 2)) .nil)))) (.cons (.assign (.var 3) (.idx (.attr (.var 0) 5) (.s7 0))) (.cons (.for [4] true (.bi .range (.cons (.attr (.var 3) 1) .nil)) (.cons (.for [5] true (.bi .range (.cons (.attr (.var 3) 0) .nil)) (.cons (.for [6] true (.attr (.var 0) 5) (.cons (.assign (.var 1) (.bin .add (.var 1) (.tN .toBytes (.idx (.idx (.attr (.var 6) 2) (.var 4)) (.var 5)) (.cons (.var 2) (.cons (.tH "big") .nil))))) .nil)) .nil)) .nil)) (.cons (.ret (.var 1)) .nil))))
noncomputable def qa:tQ:=(.cons (.vK (.call 17 (.cons (.var 0) .nil)) (.cons 1 (.cons (.ret (.tH "cut")) .nil) (.cons 0 (.cons (.ret (.tH "mark")) .nil) (.cons 2 (.cons (.ret (.tH "range")) .nil) .nil)))) (.cons (.ret (.tH "")) .nil))
noncomputable def pU:tQ:=(.cons (.ifs (.cmp (.var 1) .lt (.s7 2)) (.cons (.ret (.tH "mark")) .nil) .nil) (.cons (.assign (.var 2) (.comp (.var 3) [3] true (.bi .range (.cons (.bi .len (.cons (.var 0) .nil)) .nil)) .nil (.cons (.cmp (.idx (.idx (.var 0) (.var 3)) (.s7 0)) .lt (.var 1)) .nil))) (.cons (.ifs (.band (.cons (.cmp (.var 2) .ne (.list .nil)) (.cons (.cmp (.bin .mod (.idx (.var 2) (.neg (.s7 1))) (.s7 2)) .eq (.s7 0)) (.cons (.cmp (.idx (.idx (.var 0) (.idx (.var 2) (.neg (.s7 1)))) (.s7 1)) .gt (.var 1)) .nil)))) (.cons (.ret (.tH "range")) .nil) .nil) (.cons (.ret (.tH "cut")) .nil))))
noncomputable def ly:tQ:=(.cons (.assign (.var 3) (.list (.cons (.tup (.cons (.s9 [87,73,68,84,72]) (.cons (.list (.cons (.s9 [48]) (.cons (.s9 [54,53,53,51,54]) (.cons (.s9 [57,57,57,57,57,57,57,57,57]) .nil)))) .nil))) (.cons (.tup (.cons (.s9 [72,69,73,71,72,84]) (.cons (.list (.cons (.s9 [48]) (.cons (.s9 [54,53,53,51,54]) (.cons (.s9 [55,48,48,48,48]) .nil)))) .nil))) (.cons (.tup (.cons (.s9 [68,69,80,84,72]) (.cons (.list (.cons (.s9 [48]) (.cons (.s9 [50]) (.cons (.s9 [53]) .nil)))) .nil))) .nil))))) (.cons (.assign (.tup [4,5]) (.idx (.bin .add (.var 3) (.list (.cons (.tup (.cons (.s9 [77,65,88,86,65,76]) (.cons (.list (.cons (.s9 [48]) (.cons (.s9 [49]) (.cons (.s9 [49,51,49,48,55,49]) (.cons (.s9 [50]) (.cons (.s9 [54]) (.cons (.s9 [50,53,52]) (.cons (.s9 [54,53,53,51,52]) .nil)))))))) .nil))) .nil))) (.call 20 (.cons (.var 0) (.cons (.s7 4) .nil))))) (.cons (.assign (.var 6) (.idx (.var 5) (.call 20 (.cons (.var 0) (.cons (.bi .len (.cons (.var 5) .nil)) .nil))))) (.cons (.assign (.var 7) (.idx (.call 24 (.cons (.var 0) (.cons (.comp (.tup (.cons (.var 13) (.cons (.u5 (.cmp (.var 13) .eq (.var 4)) (.var 6) (.var 14)) .nil))) [13,14] false (.var 1) .nil .nil) .nil))) (.s7 0))) (.cons (.ifs (.cmp (.call 26 (.cons (.bin .add (.var 7) (.bin .mul (.call 25 (.cons (.var 2) .nil)) (.s7 9))) .nil)) .ne (.tH "range")) (.cons (.ret (.ug false)) .nil) .nil) (.cons (.ifs (.cmp (.attr (.var 2) 4) .isin (.tup (.cons (.s7 8) (.cons (.s7 16) .nil)))) (.cons (.ret (.ug true)) .nil) .nil) (.cons (.assign (.var 8) (.call 25 (.cons (.var 2) .nil))) (.cons (.assign (.var 9) (.u5 (.cmp (.attr (.var 2) 4) .lt (.s7 9)) (.s7 1) (.s7 2))) (.cons (.assign (.var 10) (.bin .mul (.var 9) (.call 20 (.cons (.var 0) (.cons (.bin .fdiv (.bi .len (.cons (.var 8) .nil)) (.var 9)) .nil))))) (.cons (.assign (.var 11) (.bin .sub (.bin .pow (.s7 256) (.var 9)) (.s7 1))) (.cons (.assign (.var 12) (.tN .toBytes (.idx (.list (.cons (.bin .pow (.s7 2) (.attr (.var 2) 4)) (.cons (.var 11) .nil))) (.call 20 (.cons (.var 0) (.cons (.s7 2) .nil)))) (.cons (.var 9) (.cons (.tH "big") .nil)))) (.cons (.ret (.cmp (.call 26 (.cons (.bin .add (.bin .add (.bin .add (.idx (.call 24 (.cons (.var 0) (.cons (.var 1) .nil))) (.s7 0)) (.slice (.var 8) .nil (.cons (.var 10) .nil) .nil)) (.var 12)) (.slice (.var 8) (.cons (.bin .add (.var 10) (.var 9)) .nil) .nil .nil)) .nil)) .eq (.tH "range"))) .nil))))))))))))
noncomputable def pX:tQ:=(.cons (.assign (.var 1) (.comp (.comp (.bi .list (.cons (.var 3) .nil)) [3] true (.attr (.var 2) 2) .nil .nil) [2] true (.attr (.var 0) 5) .nil .nil)) (.cons (.vK (.call 18 (.cons (.var 0) .nil)) (.cons 2 (.cons (.ret (.cmp (.comp (.attr (.var 4) 2) [4] true (.attr (.var 0) 5) .nil .nil) .eq (.var 1))) .nil) .nil)) (.cons (.ret (.ug false)) .nil)))
noncomputable def iF:tQ:=(.cons (.assign (.tup [2,8,7]) (.tup (.cons (.attr (.var 1) 4) (.cons (.attr (.idx (.attr (.var 1) 5) (.s7 0)) 0) (.cons (.attr (.idx (.attr (.var 1) 5) (.s7 0)) 1) .nil))))) (.cons (.defn 3 41) (.cons (.assign (.var 4) (.list (.cons (.new 1 (.cons (.tH "ycc") (.cons (.var 2) (.cons (.list (.cons (.tB 3 [8,7]) (.cons (.tB 3 [8,7]) (.cons (.tB 3 [8,7]) .nil)))) .nil)))) (.cons (.new 1 (.cons (.tH "ycck") (.cons (.var 2) (.cons (.list (.cons (.tB 3 [8,7]) (.cons (.tB 3 [8,7]) (.cons (.tB 3 [8,7]) (.cons (.tB 3 [8,7]) .nil))))) .nil)))) .nil)))) (.cons (.assign (.var 4) (.bin .add (.var 4) (.list (.cons (.new 1 (.cons (.tH "raw") (.cons (.var 2) (.cons (.list (.cons (.tB 3 [8,7]) .nil)) .nil)))) (.cons (.new 1 (.cons (.tH "raw") (.cons (.var 2) (.cons (.list (.cons (.tB 3 [8,7]) (.cons (.tB 3 [8,7]) (.cons (.tB 3 [8,7]) .nil)))) .nil)))) (.cons (.new 1 (.cons (.tH "rgb") (.cons (.var 2) (.cons (.list (.cons (.tB 3 [8,7]) .nil)) .nil)))) .nil)))))) (.cons (.assign (.var 4) (.bin .add (.var 4) (.list (.cons (.new 1 (.cons (.tH "rgb") (.cons (.var 2) (.cons (.list (.cons (.tB 3 [8,7]) (.cons (.tB 3 [8,7]) (.cons (.new 0 (.cons (.bin .add (.var 8) (.s7 1)) (.cons (.var 7) (.cons (.comp (.bin .mul (.list (.cons (.s7 0) .nil)) (.bin .add (.var 8) (.s7 1))) [9] true (.bi .range (.cons (.var 7) .nil)) .nil .nil) .nil)))) .nil)))) .nil)))) .nil)))) (.cons (.assign (.var 4) (.bin .add (.var 4) (.list (.cons (.new 1 (.cons (.tH "grey") (.cons (.s7 1) (.cons (.list (.cons (.tB 3 [8,7]) .nil)) .nil)))) (.cons (.new 1 (.cons (.tH "grey") (.cons (.s7 17) (.cons (.list (.cons (.tB 3 [8,7]) .nil)) .nil)))) (.cons (.new 1 (.cons (.tH "grey") (.cons (.var 2) (.cons (.list .nil) .nil)))) .nil)))))) (.cons (.assign (.var 5) (.tB 3 [8,7])) (.cons (.assign (.sub (.idx (.attr (.var 5) 2) (.call 20 (.cons (.var 0) (.cons (.var 7) .nil)))) (.call 20 (.cons (.var 0) (.cons (.var 8) .nil)))) (.idx (.list (.cons (.neg (.s7 1)) (.cons (.bin .pow (.s7 2) (.var 2)) .nil))) (.call 20 (.cons (.var 0) (.cons (.s7 2) .nil))))) (.cons (.assign (.var 6) (.tB 3 [8,7])) (.cons (.expr (.tN .pop (.idx (.attr (.var 6) 2) (.neg (.s7 1))) .nil)) (.cons (.assign (.var 4) (.bin .add (.var 4) (.list (.cons (.new 1 (.cons (.tH "grey") (.cons (.var 2) (.cons (.list (.cons (.var 5) .nil)) .nil)))) (.cons (.new 1 (.cons (.tH "grey") (.cons (.var 2) (.cons (.list (.cons (.var 6) .nil)) .nil)))) .nil))))) (.cons (.ret (.cmp (.ug false) .ui (.comp (.call 29 (.cons (.var 10) .nil)) [10] true (.var 4) .nil .nil))) .nil))))))))))))
noncomputable def ig:tQ:=(.cons (.ret (.new 0 (.cons (.var 0) (.cons (.var 1) (.cons (.comp (.bin .mul (.list (.cons (.s7 1) .nil)) (.var 0)) [2] true (.bi .range (.cons (.var 1) .nil)) .nil .nil) .nil))))) .nil)
noncomputable def lx:tQ:=(.cons (.assign (.var 1) (.call 19 (.cons (.var 0) .nil))) (.cons (.assign (.var 2) (.bin .add (.s7 2) (.call 20 (.cons (.var 1) (.cons (.s7 15) .nil))))) (.cons (.assign (.var 3) (.call 22 (.cons (.var 1) (.cons (.var 2) .nil)))) (.cons (.assign (.var 4) (.call 23 (.cons (.var 1) (.cons (.var 3) .nil)))) (.cons (.assign (.tup [5,6]) (.call 24 (.cons (.var 1) (.cons (.var 4) .nil)))) (.cons (.assign (.var 7) (.bin .add (.var 5) (.call 25 (.cons (.var 3) .nil)))) (.cons (.ifs (.bor (.cons (.not (.call 4 (.cons (.call 17 (.cons (.var 7) .nil)) (.cons (.var 3) .nil)))) (.cons (.not (.call 4 (.cons (.call 17 (.cons (.call 18 (.cons (.var 3) .nil)) .nil)) (.cons (.var 3) .nil)))) .nil))) (.cons (.ret (.ug false)) .nil) .nil) (.cons (.for [8] true (.bi .range (.cons (.s7 10) .nil)) (.cons (.assign (.var 9) (.u5 (.cmp (.var 8) .gt (.s7 1)) (.call 20 (.cons (.var 1) (.cons (.bi .len (.cons (.var 7) .nil)) .nil))) (.var 8))) (.cons (.ifs (.cmp (.call 26 (.cons (.slice (.var 7) .nil (.cons (.var 9) .nil) .nil) .nil)) .ne (.call 27 (.cons (.var 6) (.cons (.var 9) .nil)))) (.cons (.ret (.ug false)) .nil) .nil) .nil))) (.cons (.ret (.band (.cons (.call 28 (.cons (.var 1) (.cons (.var 4) (.cons (.var 3) .nil)))) (.cons (.call 30 (.cons (.var 1) (.cons (.var 3) .nil))) .nil)))) .nil)))))))))
def ahJ:Nat->Option (Nat×Nat×tQ)
 |40=>some (1,1,afF)
 |2=>some (1,1,afy)
 |3=>some (2,2,aaH)
 |4=>some (2,4,qh)
 |5=>some (2,5,aaF)
 |6=>some (1,3,aaE)
 |7=>some (4,9,qf)
 |8=>some (1,5,qj)
 |9=>some (4,7,jW)
 |10=>some (2,4,qk)
 |11=>some (2,2,afH)
 |12=>some (2,3,mT)
 |13=>some (1,4,qe)
 |14=>some (1,2,qg)
 |15=>some (2,2,mR)
 |16=>some (1,5,mU)
 |17=>some (1,11,fV)
 |18=>some (1,6,jg)
 |19=>some (1,3,aaG)
 |20=>some (2,3,pZ)
 |21=>some (1,2,pV)
 |22=>some (2,11,p9)
 |23=>some (2,9,qd)
 |24=>some (2,8,pW)
 |25=>some (1,7,qc)
 |26=>some (1,1,qa)
 |27=>some (2,4,pU)
 |28=>some (3,15,ly)
 |29=>some (1,5,pX)
 |30=>some (2,11,iF)
 |41=>some (2,3,ig)
 |31=>some (1,10,lx)
 |_=>none
def dJ(k:Nat):Option (Nat×Nat×tQ):=if k<42 then ahJ k else none
noncomputable def run:Nat->Nat->List AV->AH->R AV
 |0,_,_,_=>.bad
 |n+1,k,vs,H=>match dJ k with
  |some (np,nv,b)=>if vs.length=np then(CE ⟨run n,100000,false⟩ b (vs++CK (nv-np) .undef) H).bind λfl H=>match fl with
    | .ret v=>.ok v H
    | .next _=>.ok .none H
   else .bad
  |none=>.bad
theorem kJ{n:Nat}:run (n+1) k vs H=(match dJ k with
  |some (np,nv,b)=>if vs.length=np then(CE ⟨run n,100000,false⟩ b (vs++CK (nv-np) .undef) H).bind λfl H=>match fl with
    | .ret v=>.ok v H
    | .next _=>.ok .none H
   else .bad
  |none=>.bad):=rfl
end
section
open Classical in
noncomputable def gX(h:CF)(p:Cz->Prop):CF:=hideAll h ((CL h.objs.size).filter λa=>decide (¬p a))
theorem cP{p:Cz->Prop}{a:Cz}{o:Obj}:(gX h p).get? a=some o↔h.get? a=some o/\p a:=by
 classical
 unfold gX;constructor
 ·intro e;have e':=of_hideAll _ e;refine⟨e',Classical.byContradiction λhn=>?_⟩;have hm:a∈(CL h.objs.size).filter λa=>decide (¬p a):=by
   rw[Jj];exact⟨Fj.mpr (Db e'),by simpa using hn⟩
  rw[hideAll_none _ hm] at e;cases e
 ·rintro⟨e,hp⟩;refine hideAll_get _ e λhm=>?_;rw[Jj] at hm;simp only[C3] at hm;exact hm.2 hp
theorem oM{p:Cz->Prop}{a:Cz}(hn:¬p a):(gX h p).get? a=none:=by
 cases q:(gX h p).get? a with
 |none=>rfl
 |some o=>exact CI (cP.mp q).2 hn
noncomputable def bO:Nat->Cz
 |0=>109
 |_=>147
noncomputable def bt:Nat->Nat->Str
 |0,0=>"width" |0,1=>"height" |0,_=>"rows"
 |_,0=>"model" |_,1=>"precision" |_,_=>"planes"
noncomputable def ee:Nat->Cz
 |3=>251
 |4=>252
 |_=>78
structure Fits(od:Obj)(c:Nat)(c0 c1 c2:Cy):Prop where
 f0:lookIn (bt c 0) od=some (some c0)
 f1:lookIn (bt c 1) od=some (some c1)
 f2:lookIn (bt c 2) od=some (some c2)
 most:lookIn "most" od=some none
structure uY(B:CF)(c:Nat)(x:Cz)(c0 c1 c2:Cy):Prop where
 at_:∃ox d od,B.get? x=some ox/\ox.cls=.ref (bO c)/\ox.dict=some d/\notCls ox=true/\B.get? d=some od/\Fits od c c0 c1 c2
theorem uY.mono{c:Nat}{x:Cz}(h:uY B c x c0 c1 c2)(hB:B.StaysIn B'):uY B' c x c0 c1 c2:=let⟨⟨ox,d,od,h1,h2,h3,h4,h5,h6⟩⟩:=h;⟨(ce ox d od (hB _ _ h1) h2 h3 (bT h4 (hB _ _ h5) h6))⟩
mutual
inductive VR(B:CF)(μ:List Cz):AV->Cy->Prop where
 |none:VR B μ .none .none
 |bool (b:Bool):VR B μ (.bool b) (.bool b)
 |int (i:Int) (t:Tok):VR B μ (.int i) (.int i t)
 |str (s:Str) (t:Tok):VR B μ (.str s) (.str s t)
 |bytes (b:List UInt8) (t:Tok) (hs:b.length<=al):VR B μ (.bytes b) (.bytes b.toArray t)
 |ref (i:Nat) (a:Cz) (h:μ[i]?=some a):VR B μ (.ref i) (.ref a)
 |tup (vs:List AV) (a:Cz) (tf:List Cy) (h:B.get? a=some {cls:=.type "tuple",data:=.seq tf.toArray}) (hv:tD B μ vs tf):VR B μ (.tup vs) (.ref a)
 |inst (c:Nat) (x:Cz) (v0 v1 v2:AV) (c0 c1 c2:Cy) (h:uY B c x c0 c1 c2) (A0:VR B μ v0 c0) (ze:VR B μ v1 c1) (zH:VR B μ v2 c2):VR B μ (.inst c [v0,v1,v2]) (.ref x)
 |tR (ns:List Int) (a:Cz) (tf:List Cy) (h:B.IsList a tf.toArray) (hv:IntsAre tf ns) (hs:ns.length<=al):VR B μ (.tR ns) (.ref a)
 |uP (a b c:Int) (r:Cz) (t u v:Tok) (h:IsRange B r a b c t u v) (hs:GO a b c=true) (hc:0<c):VR B μ (.uP a b c) (.ref r)
 |gd (k:Nat) (hk:3<=k):VR B μ (.gd k) (.ref (ee k))
inductive tD(B:CF)(μ:List Cz):List AV->List Cy->Prop where
 |nil:tD B μ [] []
 |cons {v:AV} {c:Cy} {vs:List AV} {cs:List Cy} (h:VR B μ v c) (hs:tD B μ vs cs):tD B μ (v::vs) (c::cs)
end
def Pre(μ th:List Cz):Prop:=∀(i:Nat)(a:Cz),μ[i]?=some a->th[i]?=some a
theorem Pre.refl(μ:List Cz):Pre μ μ:=λZ Z h=>h
theorem Pre.trans{a b c:List Cz}(x:Pre a b)(y:Pre b c):Pre a c:=λi z h=>y i z (x i z h)
theorem Pre.snoc(μ:List Cz)(a:Cz):Pre μ (μ++[a]):=λi b h=>by rw[D6 (List.getElem?_eq_some_iff.mp h).1];exact h
section
theorem VR.mono(hB:B.StaysIn B')(tJ:Pre μ th){v:AV}{c:Cy}(h:VR B μ v c):VR B' th v c:=
 VR.rec .none .bool .int .str .bytes (λi a h=>.ref i a (tJ i a h)) (λvs a tf h Z hv=>.tup vs a tf (hB _ _ h) hv)
  (λc x v0 v1 v2 c0 c1 c2 h Z Z Z h0 h1 h2=>.inst c x v0 v1 v2 c0 c1 c2 (h.mono hB) h0 h1 h2) (λns a tf h hv hs=>.tR ns a tf (o_ea h λo h1 h2=>(ae o (hB _ _ h1) h2)) hv hs) (λa b c r t u v h hs hc=>.uP a b c r t u v (hB _ _ h) hs hc) .gd .nil (λZ Z h hs=>.cons h hs) h
theorem tD.mono(hB:B.StaysIn B')(tJ:Pre μ th)(h:tD B μ vs cs):tD B' th vs cs:=
 tD.rec (motive_1:=λZ Z Z=>True) trivial (λZ=>trivial) (λZ Z=>trivial) (λZ Z=>trivial) (λZ Z Z=>trivial) (λZ Z Z=>trivial) (λZ Z Z Z Z Z=>trivial)
  (λZ Z Z Z Z Z Z Z Z Z Z Z Z Z Z=>trivial) (λZ Z Z Z Z Z=>trivial) (λZ Z Z Z Z Z Z Z Z Z=>trivial) (λZ Z=>trivial) .nil (λh Z Z hs=>.cons (h.mono hB tJ) hs) h
end
section
def VRv(B:CF)(μ:List Cz)(cv:Cy):AV->Prop
 | .none=>cv=.none
 | .bool b=>cv=.bool b
 | .int i=>∃t,cv=.int i t
 | .str i=>∃t,cv=.str i t
 | .bytes b=>∃t,cv=.bytes b.toArray t/\b.length<=al
 | .ref i=>∃a,cv=.ref a/\μ[i]?=some a
 | .tup vs=>∃a tf,cv=.ref a/\B.get? a=some {cls:=.type "tuple",data:=.seq tf.toArray}/\tD B μ vs tf
 | .inst c vs=>∃x v0 v1 v2 c0 c1 c2,cv=.ref x/\vs=[v0,v1,v2]/\uY B c x c0 c1 c2/\VR B μ v0 c0/\VR B μ v1 c1/\VR B μ v2 c2
 | .tR ns=>∃a tf,cv=.ref a/\B.IsList a (Da tf)/\IntsAre tf ns/\ns.length<=al
 | .uP a b c=>∃r t u v,cv=.ref r/\IsRange B r a b c t u v/\GO a b c=true/\0<c
 | .gd k=>cv=.ref (ee k)/\3<=k
 | .undef=>False
 | .fn k=>False
theorem VR.v{v:AV}(h:VR B μ v cv):VRv B μ cv v:=by
 cases h with
 |none=>rfl
 |bool=>rfl
 |int i t=>exact⟨t,rfl⟩
 |str i t=>exact⟨t,rfl⟩
 |bytes b t h=>exact⟨t,rfl,h⟩
 |ref i a h=>exact⟨a,rfl,h⟩
 |tup vs a tf h1 h2=>exact ax a tf rfl h1 h2
 |inst c x v0 v1 v2 c0 c1 c2 h h0 h1 h2=>exact dT x v0 v1 v2 c0 c1 (gb c2 rfl rfl h h0 h1 h2)
 |tR ns a tf h1 h2 h3=>exact jx a tf rfl h1 h2 h3
 |uP a b c r t u v h1 h2 h3=>exact ef r t u v rfl h1 (bE h2 h3)
 |gd k h=>exact⟨rfl,h⟩
theorem VR.n(h:VR B μ .none cv):cv=.none:=h.v
theorem VR.b{b:Bool}(h:VR B μ (.bool b) cv):cv=.bool b:=h.v
theorem VR.i{i:Int}(h:VR B μ (.int i) cv):∃t,cv=.int i t:=h.v
theorem VR.s{i:Str}(h:VR B μ (.str i) cv):∃t,cv=.str i t:=h.v
theorem VR.y{b:List UInt8}(h:VR B μ (.bytes b) cv):∃t,cv=.bytes b.toArray t/\b.length<=al:=h.v
theorem VR.r{i:Nat}(h:VR B μ (.ref i) cv):∃a,cv=.ref a/\μ[i]?=some a:=h.v
theorem VR.t(h:VR B μ (.tup vs) cv):∃a tf,cv=.ref a/\B.get? a=some {cls:=.type "tuple",data:=.seq tf.toArray}/\tD B μ vs tf:=h.v
theorem VR.o{c:Nat}(h:VR B μ (.inst c vs) cv):∃x v0 v1 v2 c0 c1 c2,cv=.ref x/\vs=[v0,v1,v2]/\uY B c x c0 c1 c2/\VR B μ v0 c0/\VR B μ v1 c1/\VR B μ v2 c2:=h.v
theorem VR.f(h:VR B μ (.tR ns) cv):∃a tf,cv=.ref a/\B.IsList a (Da tf)/\IntsAre tf ns/\ns.length<=al:=h.v
theorem VR.g{a b c:Int}(h:VR B μ (.uP a b c) cv):∃r t u v,cv=.ref r/\IsRange B r a b c t u v/\GO a b c=true/\0<c:=h.v
theorem VR.d(h:VR B μ (.gd k) cv):cv=.ref (ee k)/\3<=k:=h.v
theorem tD.n(h:tD B μ [] cs):cs=[]:=by cases h;rfl
theorem tD.c{v:AV}(h:tD B μ (v::vs) cs):∃c r,cs=c::r/\VR B μ v c/\tD B μ vs r:=by cases h;exact(ax _ _ rfl ‹_› ‹_›)
theorem tD.o1{v:AV}(h:tD B μ [v] cs):∃c,cs=[c]/\VR B μ v c:=by(obtain⟨c,r,zq2,h1,h2⟩:=(h.c);clear h;subst zq2);rw[h2.n];exact(ae c rfl h1)
theorem tD.o2{v w:AV}(h:tD B μ [v,w] cs):∃c d,cs=[c,d]/\VR B μ v c/\VR B μ w d:=by obtain⟨c,r,rfl,h1,h2⟩:=(h.c);(obtain⟨d,zq1,h3⟩:=(h2.o1);clear h2 h;subst zq1);exact(ax c d rfl h1 h3)
end
theorem tD.length:∀{vs:List AV}{cs:List Cy},tD B μ vs cs->cs.length=vs.length:=by
 intro zi
 induction zi with
 |nil=>
 exact @λZ h=>by rw[h.n];rfl
 |cons Z Z ih=>
 exact @λZ h=>by(obtain⟨_,_,zq2,_,hs⟩:=(h.c);clear h;subst zq2);exact CH (·+1) (ih hs)
theorem tD.get:∀{vs:List AV}{cs:List Cy},tD B μ vs cs->∀{i:Nat}{v:AV},vs[i]?=some v->∃c,cs[i]?=some c/\VR B μ v c:=by
 intro zi
 induction zi with
 |nil=>
 exact @λZ Z i v e=>by simp at e
 |cons Z Z ih=>
 exact @λZ h i v e=>by
  (obtain⟨_,_,zq2,h1,hs⟩:=(h.c);clear h;subst zq2)
  cases i with
  |zero=>cases e;exact(ae _ rfl h1)
  |succ i=>exact ih hs e
theorem tD.append{B:CF}{μ:List Cz}:∀{vs ws:List AV}{cs ds:List Cy},tD B μ vs cs->tD B μ ws ds->tD B μ (vs++ws) (cs++ds)
 |[],_,_,_,h,h'=>by rw[h.n];exact h'
 |_::_,_,_,_,h,h'=>by(obtain⟨_,_,zq2,h1,hs⟩:=(h.c);clear h;subst zq2);exact .cons h1 (tD.append hs h')
def OR(B:CF)(μ:List Cz)(prog:Program)(w:CQ):AO->Obj->Prop
 | .list xs,o=>∃tf n,o={cls:=.type "list",data:=.seq (Da tf) n}/\tD B μ xs tf/\xs.length<=al
 | .dict es,o=>∃kvs,o.IsDictOf (bytesKind prog w) kvs/\kvs.map (·.1)=es.map (·.1)/\tD B μ (es.map (·.2)) (kvs.map (·.2))/\es.length<=2000
 | .un b,o=>o={cls:=.type "bytearray",data:=.bytearray b.toArray 0}/\b.length<=al
theorem OR.mono{w:CQ}(hB:B.StaysIn B')(tJ:Pre μ th){a:AO}{o:Obj}(h:OR B μ prog w a o):OR B' th prog w a o:=by
 cases a with
 |list xs=>obtain⟨tf,n,h3,h4,h5⟩:=h;exact(ax tf n h3 (h4.mono hB tJ) h5)
 |dict es=>obtain⟨kvs,h1,h2,h3,h4⟩:=h;exact(cY kvs h1 h2 (h3.mono hB tJ) h4)
 |un b=>exact h
def d6(o:Obj):Prop:=∃vs,o.data=.fields vs
def Ex(o:Obj):Prop:=d6 o\/∃xs n,o.data=.seq xs n
abbrev tm:=Cz->Obj->Prop
structure Inv(prog:Program)(w:CQ)(B:CF)(U:tm)(μ:List Cz)(H:AH)(h:CF):Prop where
 base:B.StaysIn h
 us:∀a o,U a o->B.get? a=none/\a∉μ/\∃sl,h.get? a=some {o with slots:=sl}/\(Ex o->sl=o.slots)
 nodup:μ.Nodup
 fresh:∀a∈μ,B.get? a=none
 len:μ.length=H.length
 objs:∀(i:Nat)(a:Cz)(o:AO),μ[i]?=some a->H[i]?=some o->∃ob,h.get? a=some ob/\OR B μ prog w o ob/\¬d6 ob
section
variable {w:CQ}{U:tm}
theorem Inv.lt(I:Inv prog w B U μ H h){a:Cz}(ha:a∈μ):a<h.objs.size:=by obtain⟨i,hi⟩:=Ea.mp ha;have hl:i<H.length:=I.len▸(List.getElem?_eq_some_iff.mp hi).1;obtain⟨ob,wJ,_⟩:=I.objs i a H[i] hi (List.getElem?_eq_getElem hl);exact Db wJ
theorem Inv.zI(I:Inv prog w B U μ H h){a:Cz}{o:Obj}(ha:U a o):a<h.objs.size:=by refine o_aaea (I.us a o ha) λZ Z sl e Z=>?_;exact Db e
theorem Inv.xh(I:Inv prog w B U μ H h):B.get? h.objs.size=none:=I.base.fresh
theorem Inv.nextM(I:Inv prog w B U μ H h):h.objs.size∉μ:=λhm=>CS _ (I.lt hm)
theorem Inv.wy(I:Inv prog w B U μ H h)(o:Obj):¬U h.objs.size o:=λhm=>CS _ (I.zI hm)
theorem Inv.other(I:Inv prog w B U μ H h)(k:∀b o,h.get? b=some o->((B.get? b).isSome\/b∈μ\/∃u,U b u)->h'.get? b=some o):Inv prog w B U μ H h' where
 base:=λb o e=>k b o (I.base b o e) (.inl (by rw[e];rfl))
 us:=λa o hu=>o_aaea (I.us a o hu) λh1 h2 sl h3 h4=>(ft h1 h2 sl (k _ _ h3 (.inr (.inr ⟨o,hu⟩))) h4)
 nodup:=I.nodup
 fresh:=I.fresh
 len:=I.len
 objs:=λi a o h1 h2=>let⟨ob,h3,h4⟩:=I.objs i a o h1 h2;(ae ob (k _ _ h3 (.inr (.inl (Ea.mpr ⟨i,h1⟩)))) h4)
theorem Inv.ext(I:Inv prog w B U μ H h)(k:∀b o,h.get? b=some o->h'.get? b=some o):Inv prog w B U μ H h':=I.other λb o e Z=>k b o e
theorem Inv.push(I:Inv prog w B U μ H h)(o:Obj):Inv prog w B U μ H (h.push o):=I.ext λZ Z e=>C6 o e
theorem Inv.but(I:Inv prog w B U μ H h){a:Cz}(hs:Dz a h h')(h1:B.get? a=none)(h2:a∉μ)(h3:∀o,¬U a o):Inv prog w B U μ H h':=
 I.other λb o e q=>hs b o (by
  rintro rfl;rcases q with q |q |⟨u,q⟩
  ·rw[h1] at q;cases q
  ·exact h2 q
  ·exact h3 u q) e
theorem Inv.less(I:Inv prog w B U μ H h){U':tm}(k:∀a o,U' a o->U a o):Inv prog w B U' μ H h:=⟨I.base,λa o hu=>I.us a o (k a o hu),I.nodup,I.fresh,I.len,I.objs⟩
noncomputable def tm.add(U:tm)(a:Cz)(o:Obj):tm:=λb p=>U b p\/(b=a/\p=o)
theorem Inv.more(I:Inv prog w B U μ H h){a:Cz}{o:Obj}(e:h.get? a=some o)(h1:B.get? a=none)(h2:a∉μ):Inv prog w B (U.add a o) μ H h:=⟨I.base,λb p hu=>hu.elim (λhu=>I.us b p hu) λq=>by clear hu;obtain⟨rfl,rfl⟩:=q;exact(ft h1 h2 p.slots e (λZ=>rfl)),I.nodup,I.fresh,I.len,I.objs⟩
theorem Inv.vJ(I:Inv prog w B U μ H h){a:Cz}{o:Obj}(e:h.get? a=some o)(h2:a∉μ)(h3:∀o,¬U a o):
  ∃B',B.StaysIn B'/\B'.get? a=some o/\Inv prog w B' U μ H h:=by
 refine(aI (gX h λb=>(B.get? b).isSome\/b=a) (λb p q=>cP.mpr ⟨I.base b p q,.inl (by rw[q];rfl)⟩) (cP.mpr ⟨e,.inr rfl⟩) ?_);have st:B.StaysIn (gX h λb=>(B.get? b).isSome\/b=a):=λb p q=>cP.mpr ⟨I.base b p q,.inl (by rw[q];rfl)⟩;refine⟨λb p q=>(cP.mp q).1,λb p hu=>?_,I.nodup,λb hb=>?_,I.len,λi b p x y=>?_⟩
 ·obtain⟨g1,g2,g3⟩:=I.us b p hu;refine⟨oM ?_,g2,g3⟩;rintro(q |rfl)
  ·rw[g1] at q;cases q
  ·exact h3 p hu
 ·refine oM ?_;rintro(q |rfl)
  ·rw[I.fresh b hb] at q;cases q
  ·exact h2 hb
 ·obtain⟨ob,g1,g2,g3⟩:=I.objs i b p x y;exact(aI ob g1 (g2.mono st (Pre.refl _)) g3)
theorem Inv.xw(I:Inv prog w B U μ H h){a:Cz}{o:Obj}(k:∀b p,h.get? b=some p->h'.get? b=some p)
  (ha:h.objs.size<=a) (e:h'.get? a=some o) (ho:OR B μ prog w ao o) (hf:¬d6 o):Inv prog w B U (μ++[a]) (H++[ao]) h':=by
 have J:=I.ext k;have nB:B.get? a=none:=by
  cases q:B.get? a with
  |none=>rfl
  |some p=>exact CI (Nat.lt_of_lt_of_le (Db (I.base _ _ q)) ha) (CS _)
 have nM:a∉μ:=λhm=>CS _ (Nat.lt_of_lt_of_le (I.lt hm) ha);have nU:∀p,¬U a p:=λp hu=>CS _ (Nat.lt_of_lt_of_le (I.zI hu) ha);refine⟨J.base,λb p hu=>?_,?_,λb hb=>?_,by simp[I.len],λi b p x y=>?_⟩
 ·obtain⟨g1,g2,g3⟩:=J.us b p hu;refine⟨g1,λhm=>?_,g3⟩;rcases DJ.mp hm with hm |hm
  ·exact g2 hm
  ·rw[DD.mp hm] at hu;exact nU p hu
 ·rw[Jk];refine⟨I.nodup,by simp,λx hx y hy=>?_⟩;rw[DD.mp hy];rintro rfl;exact nM hx
 ·rcases DJ.mp hb with hb |hb
  ·exact I.fresh b hb
  ·rw[DD.mp hb];exact nB
 ·by_cases hi:i<μ.length
  ·rw[D6 hi] at x;rw[D6 (I.len▸hi)] at y;obtain⟨ob,g1,g2,g3⟩:=J.objs i b p x y;exact(aI ob g1 (g2.mono (λZ Z e=>e) (Pre.snoc _ _)) g3)
  ·have BR:i=μ.length:=by
    have:=(List.getElem?_eq_some_iff.mp x).1;rw[List.length_append,K6] at this;exact Lv this hi
   clear hi;subst BR;rw[FU (Nat.le_refl _),FH] at x;rw[I.len,FU (Nat.le_refl _),FH] at y;cases x;cases y;exact(aI o e (ho.mono (λZ Z e=>e) (Pre.snoc _ _)) hf)
theorem Inv.alloc(I:Inv prog w B U μ H h){o:Obj}(e:(h.push o).get? h.objs.size=some o)(ho:OR B μ prog w ao o)(hf:¬d6 o):
  Inv prog w B U (μ++[h.objs.size]) (H++[ao]) (h.push o):=I.xw (λZ Z e=>C6 o e) (Nat.le_refl _) e ho hf
theorem Inv.upd(I:Inv prog w B U μ H h){i:Nat}{a:Cz}(hi:μ[i]?=some a)(hs:Dz a h h')(e:h'.get? a=some ob)(ho:OR B μ prog w ao ob)(hf:¬d6 ob):
  Inv prog w B U μ (H.set i ao) h':=by
 have hm:a∈μ:=Ea.mpr ⟨i,hi⟩;refine⟨λb p q=>hs b p (by rintro rfl;rw[I.fresh _ hm] at q;cases q) (I.base b p q),λb p hu=>?_,I.nodup,I.fresh,by simp[I.len],λj b p x y=>?_⟩
 ·refine o_aaea (I.us b p hu) λg1 g2 sl g3 g4=>?_;exact(ft g1 g2 sl (hs b _ (by rintro rfl;exact g2 hm) g3) g4)
 ·by_cases hj:j=i
  ·subst hj;rw[hi] at x;cases x;have:j<H.length:=I.len▸(List.getElem?_eq_some_iff.mp hi).1;rw[EV this] at y;cases y;exact(aI ob e ho hf)
  ·rw[DH (λq=>hj q.symm)] at y;obtain⟨ob',g1,g2⟩:=I.objs j b p x y;refine(ae ob' (hs b _ (λq=>hj ?_) g1) g2);clear hs e hm;subst q;have l1:=(List.getElem?_eq_some_iff.mp x);have l2:=(List.getElem?_eq_some_iff.mp hi);exact(K0 I.nodup).mp (l1.2.trans l2.2.symm)
end
end
variable {s:CC}{U U0 U' U0':tm}{v y:AV}{t:Tok}{d:Data}{g:Array GenState}
noncomputable def ml:zk->Operator
 | .add=>.Add | .sub=>.Sub | .mul=>.Mult | .fdiv=>.FloorDiv | .mod=>.Mod | .pow=>.Pow | .shl=>.LShift
noncomputable def dI:yA->CmpOp
 | .eq=>.Eq | .ne=>.NotEq | .lt=>.Lt | .le=>.LtE | .gt=>.Gt | .ge=>.GtE | .isin=>.In | .ui=>.NotIn
noncomputable def eG:Nat->Str
 |0=>"BLANKS" |1=>"MOST_FIGURES" |2=>"NAMES" |3=>"KINDS" |4=>"MODELS" |_=>"COUNTS"
noncomputable def cW:Nat->Str
 |2=>"greatest_sample" |3=>"same_plane" |4=>"same_picture" |5=>"check_plane" |6=>"check_picture" |7=>"planes_of" |8=>"samples_of" |9=>"read_octets"
 |10=>"write_octets" |11=>"skip_blanks" |12=>"next_word" |13=>"number_of" |14=>"precision_of" |15=>"check_sides" |16=>"read_told_head" |17=>"read_map"
 |18=>"write_map" |19=>"_law_bucket" |20=>"_law_ladle" |21=>"_law_gap" |22=>"_law_picture" |23=>"_law_words" |24=>"_law_head" |25=>"_law_samples"
 |26=>"_law_refused" |27=>"_law_cut_due" |28=>"_law_values_right" |29=>"_law_is_refused" |30=>"_law_others_right" |31=>"law" |40=>"most" |41=>"one" |_=>"?"
noncomputable def gF:Nat->Str
 |0=>"Plane" |_=>"Picture"
noncomputable def cV:Nat->Str
 |0=>"MarkerError" |1=>"CutError" |_=>"RangeError"
noncomputable def fU:Nat->Str
 |0=>"width" |1=>"height" |2=>"rows" |3=>"model" |4=>"precision" |_=>"planes"
noncomputable def dH:BI->Str
 | .len=>"len" | .int=>"int" | .bytes=>"bytes" | .list=>"list" | .bytearray=>"bytearray" | .max=>"max" | .min=>"min" | .all=>"all" | .isInt=>"isinstance" | .str=>"str" | .range=>"range"
noncomputable def lY:MT->Str
 | .append=>"append" | .pop=>"pop" | .tZ=>"bit_length" | .toBytes=>"to_bytes" | .encode=>"encode" | .get=>"get" | .join=>"join"
noncomputable abbrev aN:=List (Nat×Str)
noncomputable abbrev aP:=List (Str×NameKind)
noncomputable def fw(x:Str):Bool:=x !="__debug__"&&x !="__classdict__"
noncomputable def glob? (nk:aP) (x:Str):Bool:=nk.lookup x==some .globalImplicit&&x !="__debug__"
noncomputable def bP(t:List Nat)(xs:List Str)(vis:aN)(nk:aP):aN:=t.zip xs++vis.filter λp=>nk.lookup p.2==some .free&& !t.contains p.1
noncomputable def bQ(vis:aN):Bool:=decide (vis.map (·.1)).Nodup&&decide (vis.map (·.2)).Nodup
noncomputable def gY(nk:aP)(sc:Scope):Bool:=sc.names.all λp=>p.2 !=.cell&&(p.2 !=.local||sc.names.lookup p.1==some .local)&&(p.2 !=.free||(sc.names.lookup p.1==some .free&&(nk.lookup p.1==some .cell||nk.lookup p.1==some .free)))
set_option genInjectivity false in
set_option genSizeOf false in
structure Nd where
 tag:Nat
 a:CD
 b:CD
 d:CD
 o:Operator
 u:UnaryOp
 bo:BoolOp
 cs:List CmpOp
 fs:List CD
 k:Const
 q:Nat
 x:Str
 p:Pos
 oa:Option CD
 ob:Option CD
 od:Option CD
 kw:List Keyword
 gs:List Comprehension
 sc:Scope
 ks:List (Option CD)
noncomputable def dX(t:Nat)(p:Pos):Nd:=⟨t,default,default,default,.Add,.Not,.And,[],[],.none,0,"",p,none,none,none,[],[],default,[]⟩
def view:CD->Nd
 | .Name x p=>{dX 1 p with x:=x}
 | .Constant k q p=>{dX 2 p with k:=k,q:=q}
 | .BinOp l o r p=>{dX 3 p with a:=l,o:=o,b:=r}
 | .UnaryOp u l p=>{dX 4 p with u:=u,a:=l}
 | .BoolOp o fs p=>{dX 5 p with bo:=o,fs:=fs}
 | .Compare l ps rs p=>{dX 6 p with a:=l,cs:=ps,fs:=rs}
 | .IfExp t l r p=>{dX 7 p with a:=t,b:=l,d:=r}
 | .List fs p=>{dX 8 p with fs:=fs}
 | .Tuple fs q p=>{dX 9 p with fs:=fs,q:=q}
 | .Dict ks fs p=>{dX 10 p with ks:=ks,fs:=fs}
 | .Subscript l r p=>{dX 11 p with a:=l,b:=r}
 | .Slice x y z p=>{dX 12 p with oa:=x,ob:=y,od:=z}
 | .Attribute l x p=>{dX 13 p with a:=l,x:=x}
 | .Call g fs ks p=>{dX 14 p with a:=g,fs:=fs,kw:=ks}
 | .ListComp e gs sc p=>{dX 15 p with a:=e,gs:=gs,sc:=sc}
 |_=>dX 0 default
noncomputable def aaP(n:Nd):CD:=
 if n.tag=1 then .Name n.x n.p else if n.tag=2 then .Constant n.k n.q n.p else if n.tag=3 then .BinOp n.a n.o n.b n.p else if n.tag=4 then .UnaryOp n.u n.a n.p
 else if n.tag=5 then .BoolOp n.bo n.fs n.p else if n.tag=6 then .Compare n.a n.cs n.fs n.p else if n.tag=7 then .IfExp n.a n.b n.d n.p else if n.tag=8 then .List n.fs n.p
 else if n.tag=9 then .Tuple n.fs n.q n.p else if n.tag=10 then .Dict n.ks n.fs n.p else if n.tag=11 then .Subscript n.a n.b n.p else if n.tag=12 then .Slice n.oa n.ob n.od n.p
 else if n.tag=13 then .Attribute n.a n.x n.p else if n.tag=14 then .Call n.a n.fs n.kw n.p else .ListComp n.a n.gs n.sc n.p
theorem aqI(e:CD)(h:(view e).tag≠0):e=aaP (view e):=by cases e<;>first |rfl |exact CI rfl h
theorem eA{e:CD}{t:Nat}(ht:((view e).tag==t)=true)(h0:t≠0):e=aaP {view e with tag:=t}:=by
 have h:(view e).tag=t:=eq_of_beq ht;have:=aqI e (by rw[h];exact h0);rw[this]
 conv=>rhs;rw[<-this]
 rw[<-h]
theorem aa{a b:Bool}(h:(a&&b)=true):a=true/\b=true:=Ff.mp h
def dP(e:CD):Option Str:=if(view e).tag=1 then some (view e).x else none
def cZ(one:Bool)(e:CD):Option (List Str):=if one then(dP e).map λx=>[x] else if(view e).tag=9 then(view e).fs.mapM dP else none
def l9(e:CD):Bool:= !((view e).tag==14&&dP (view e).a==some "super")
noncomputable def kj(nk:aP)(xs:List Str):Bool:=xs.all λx=>nk.lookup x==some .local
noncomputable def lW(sc:Scope):Bool:=sc.kind==.function&& !sc.isGenerator&& !sc.isCoroutine&&sc.more.isEmpty
def fu(l:CD)(n:Nat)(np pos:Pos):Bool:=l9 l&&(np.endLine==pos.line)&&decide (n<30)
def jj(k:Nat):Bool:=(dJ k).isSome&&decide (k<40)&&decide (k≠30/\k≠31)
noncomputable def hd(l:List CD):CD:=l.headD default
noncomputable def dK(l:List CD):CD:=(l.drop 1).headD default
noncomputable def gen(l:List Comprehension):Comprehension:=l.headD default
section
variable {e:CD}
theorem lM(ht:((view e).tag==1)=true)(h:((view e).x==x)=true):e=.Name x (view e).p:=by obtain rfl:=eq_of_beq h;exact eA ht (by decide)
theorem lL{k:Const}(ht:((view e).tag==2)=true)(h:((view e).k==k)=true):e=.Constant k (view e).q (view e).p:=by obtain rfl:=eq_of_beq h;exact eA ht (by decide)
theorem ag3{o:Operator}(ht:((view e).tag==3)=true)(h:((view e).o==o)=true):e=.BinOp (view e).a o (view e).b (view e).p:=by obtain rfl:=eq_of_beq h;exact eA ht (by decide)
theorem eUn{o:UnaryOp}(ht:((view e).tag==4)=true)(h:((view e).u==o)=true):e=.UnaryOp o (view e).a (view e).p:=by obtain rfl:=eq_of_beq h;exact eA ht (by decide)
theorem qE{o:BoolOp}(ht:((view e).tag==5)=true)(h:((view e).bo==o)=true):e=.BoolOp o (view e).fs (view e).p:=by obtain rfl:=eq_of_beq h;exact eA ht (by decide)
theorem abG{o:List CmpOp}{l:List CD}(ht:((view e).tag==6)=true)(h:((view e).cs==o)=true)(hl:(view e).fs=l):e=.Compare (view e).a o l (view e).p:=by obtain rfl:=eq_of_beq h;rw[<-hl];exact eA ht (by decide)
theorem eIf(ht:((view e).tag==7)=true):e=.IfExp (view e).a (view e).b (view e).d (view e).p:=eA ht (by decide)
theorem ag8(ht:((view e).tag==8)=true):e=.List (view e).fs (view e).p:=eA ht (by decide)
theorem qH(ht:((view e).tag==9)=true):e=.Tuple (view e).fs (view e).q (view e).p:=eA ht (by decide)
theorem ag5(ht:((view e).tag==10)=true)(h:(view e).ks.isEmpty=true)(h2:(view e).fs.isEmpty=true):e=.Dict [] [] (view e).p:=by rw[<-DR.mp h,<-DR.mp h2];exact eA ht (by decide)
theorem qG(ht:((view e).tag==11)=true):e=.Subscript (view e).a (view e).b (view e).p:=eA ht (by decide)
theorem aha(ht:((view e).tag==12)=true):e=.Slice (view e).oa (view e).ob (view e).od (view e).p:=eA ht (by decide)
theorem nb(ht:((view e).tag==13)=true)(h:((view e).x==x)=true):e=.Attribute (view e).a x (view e).p:=by obtain rfl:=eq_of_beq h;exact eA ht (by decide)
theorem ag4{g:CD}(ht:((view e).tag==14)=true)(h:(view e).kw.isEmpty=true)(hg:(view e).a=g):e=.Call g (view e).fs [] (view e).p:=by rw[<-DR.mp h,<-hg];exact eA ht (by decide)
theorem eLC{gs:List Comprehension}(ht:((view e).tag==15)=true)(h:(view e).gs=gs):e=.ListComp (view e).a gs (view e).sc (view e).p:=by rw[<-h];exact eA ht (by decide)
end
noncomputable def kD(l:List CD):Bool:=l.length==1
noncomputable def kU(l:List CD):Bool:=l.length==2
theorem rX{l:List CD}(h:kD l=true):l=[hd l]:=by
 match l,h with
 |[a],_=>rfl
theorem mz{l:List CD}(h:kU l=true):l=[hd l,dK l]:=by
 match l,h with
 |[a,b],_=>rfl
def adF(l:List Comprehension):Bool:=l.length==1&&(gen l).is_async==0
theorem anW{l:List Comprehension}(h:adF l=true):l=[⟨(gen l).target,(gen l).iter,(gen l).ifs,0⟩]:=by
 match l,h with
 |[⟨t,i,cs,a⟩],h=>rw[show a=0 from eq_of_beq (aa h).2];rfl
def dO(x:Str)(e:CD):Bool:=(view e).tag==1&&(view e).x==x
def fX(e:CD):Bool:=(view e).tag==14&&(view e).kw.isEmpty
noncomputable def rD:ub->Bool
 | .nil=>true
 | .cons _ _=>false
theorem acZ{es:ub}(h:rD es=true):es=.nil:=by
 cases es with
 |nil=>rfl
 |cons _ _=>exact Ey h
noncomputable def mP(l:List Nat):Nat:=(l.drop 1).headD 0
def nd(t:List Nat)(xs:List Str)(vis:aN)(nk:aP)(sc:Scope):Bool:=decide (t.length=xs.length)&&(kj sc.names xs&&(lW sc&&(gY nk sc&&bQ (bP t xs vis sc.names))))
def cE(one:Bool)(tg:CD):List Str:=(cZ one tg).getD []
mutual
noncomputable def TE(vis:aN)(nk:aP):PE->CD->Prop
 | .var i,e=>e=.Name (view e).x (view e).p/\(i,(view e).x)∈vis/\fw (view e).x=true
 | .glob k,e=>e=.Name (eG k) (view e).p/\glob? nk (eG k)=true/\k<=5
 | .s7 i,e=>e=.Constant (.int i) (view e).q (view e).p
 | .tH i,e=>e=.Constant (.str i) (view e).q (view e).p
 | .s9 i,e=>e=.Constant (.bytes i) (view e).q (view e).p/\i.length<=al
 | .ug i,e=>e=.Constant (.bool i) (view e).q (view e).p
 | .bin o a b,e=>e=.BinOp (view e).a (ml o) (view e).b (view e).p/\TE vis nk a (view e).a/\TE vis nk b (view e).b
 | .neg a,e=>e=.UnaryOp .USub (view e).a (view e).p/\TE vis nk a (view e).a
 | .not a,e=>e=.UnaryOp .Not (view e).a (view e).p/\TE vis nk a (view e).a
 | .band es,e=>e=.BoolOp .And (view e).fs (view e).p/\u7 vis nk es (view e).fs/\2<=(view e).fs.length
 | .bor es,e=>e=.BoolOp .Or (view e).fs (view e).p/\u7 vis nk es (view e).fs/\2<=(view e).fs.length
 | .cmp a o b,e=>e=.Compare (view e).a [dI o] [hd (view e).fs] (view e).p/\TE vis nk a (view e).a/\TE vis nk b (hd (view e).fs)
 | .uE a o b o' d,e=>e=.Compare (view e).a [dI o,dI o'] [hd (view e).fs,dK (view e).fs] (view e).p/\TE vis nk a (view e).a/\TE vis nk b (hd (view e).fs)/\TE vis nk d (dK (view e).fs)
 | .u5 d a b,e=>e=.IfExp (view e).a (view e).b (view e).d (view e).p/\TE vis nk d (view e).a/\TE vis nk a (view e).b/\TE vis nk b (view e).d
 | .list es,e=>e=.List (view e).fs (view e).p/\u7 vis nk es (view e).fs
 | .tup es,e=>e=.Tuple (view e).fs (view e).q (view e).p/\u7 vis nk es (view e).fs/\(view e).fs.length<=20
 | .uL,e=>e=.Dict [] [] (view e).p
 | .idx a i,e=>e=.Subscript (view e).a (view e).b (view e).p/\TE vis nk a (view e).a/\TE vis nk i (view e).b
 | .slice a lo hi st,e=>e=.Subscript (view e).a (.Slice (view (view e).b).oa (view (view e).b).ob (view (view e).b).od (view (view e).b).p) (view e).p/\TE vis nk a (view e).a/\TO vis nk lo (view (view e).b).oa/\TO vis nk hi (view (view e).b).ob/\TO vis nk st (view (view e).b).od
 | .attr a n,e=>e=.Attribute (view e).a (fU n) (view e).p/\TE vis nk a (view e).a/\n<=5/\l9 (view e).a=true
 | .comp elt t one it zip conds,e=>e=.ListComp (view e).a [⟨(gen (view e).gs).target,(gen (view e).gs).iter,(gen (view e).gs).ifs,0⟩] (view e).sc (view e).p/\cZ one (gen (view e).gs).target=some (cE one (gen (view e).gs).target)/\
   nd t (cE one (gen (view e).gs).target) vis nk (view e).sc=true/\TE (bP t (cE one (gen (view e).gs).target) vis (view e).sc.names) (view e).sc.names elt (view e).a/\u7 (bP t (cE one (gen (view e).gs).target) vis (view e).sc.names) (view e).sc.names conds (gen (view e).gs).ifs/\
   TZ vis nk one (TE vis nk it) zip (gen (view e).gs).iter
 | .call k es,e=>e=.Call (.Name (cW k) (view (view e).a).p) (view e).fs [] (view e).p/\jj k=true/\glob? nk (cW k)=true/\u7 vis nk es (view e).fs
 | .new k es,e=>e=.Call (.Name (gF k) (view (view e).a).p) (view e).fs [] (view e).p/\glob? nk (gF k)=true/\k<=1/\u7 vis nk es (view e).fs
 | .bi f es,e=>e=.Call (.Name (dH f) (view (view e).a).p) (view e).fs [] (view e).p/\glob? nk (dH f)=true/\((f≠.isInt/\u7 vis nk es (view e).fs)\/(f=.isInt/\(view e).fs=[hd (view e).fs,.Name "int" (view (dK (view e).fs)).p]/\glob? nk "int"=true/\u7 vis nk es [hd (view e).fs]))
 | .tN m o es,e=>e=.Call (.Attribute (view (view e).a).a (lY m) (view (view e).a).p) (view e).fs [] (view e).p/\fu (view (view e).a).a (view e).fs.length (view (view e).a).p (view e).p=true/\TE vis nk o (view (view e).a).a/\u7 vis nk es (view e).fs
 | .most o,e=>e=.Call (.Attribute (view (view e).a).a "most" (view (view e).a).p) [] [] (view e).p/\fu (view (view e).a).a 0 (view (view e).a).p (view e).p=true/\TE vis nk o (view (view e).a).a
 | .tB i t8,e=>e=.Call (.Name (view (view e).a).x (view (view e).a).p) [] [] (view e).p/\t8=[t8.headD 0,mP t8]/\(i,(view (view e).a).x)∈vis/\fw (view (view e).a).x=true/\(t8.headD 0,("width":Str))∈vis/\(mP t8,("height":Str))∈vis
noncomputable def u7(vis:aN)(nk:aP):ub->List CD->Prop
 | .nil,fs=>fs=[]
 | .cons e es,fs=>fs=hd fs::fs.tail/\TE vis nk e (hd fs)/\u7 vis nk es fs.tail
noncomputable def TO(vis:aN)(nk:aP):ub->Option CD->Prop
 | .nil,o=>o=none
 | .cons e es,o=>es=.nil/\o=some (o.getD default)/\TE vis nk e (o.getD default)
noncomputable def TZ(vis:aN)(nk:aP)(one:Bool)(P:CD->Prop):ub->CD->Prop
 | .nil,i=>P i
 | .cons e es,i=>es=.nil/\i=.Call (.Name "zip" (view (view i).a).p) [hd (view i).fs,dK (view i).fs] [] (view i).p/\glob? nk "zip"=true/\one=false/\P (hd (view i).fs)/\TE vis nk e (dK (view i).fs)
end
mutual
noncomputable def bD(vis:aN)(nk:aP):PE->CD->Bool
 | .var i,e=>(view e).tag==1&&(vis.contains (i,(view e).x)&&fw (view e).x)
 | .glob k,e=>dO (eG k) e&&(glob? nk (eG k)&&decide (k<=5))
 | .s7 i,e=>(view e).tag==2&&(view e).k==.int i
 | .tH i,e=>(view e).tag==2&&(view e).k==.str i
 | .s9 i,e=>((view e).tag==2&&(view e).k==.bytes i)&&decide (i.length<=al)
 | .ug i,e=>(view e).tag==2&&(view e).k==.bool i
 | .bin o a b,e=>((view e).tag==3&&(view e).o==ml o)&&(bD vis nk a (view e).a&&bD vis nk b (view e).b)
 | .neg a,e=>((view e).tag==4&&(view e).u==.USub)&&bD vis nk a (view e).a
 | .not a,e=>((view e).tag==4&&(view e).u==.Not)&&bD vis nk a (view e).a
 | .band es,e=>((view e).tag==5&&(view e).bo==.And)&&(uK vis nk es (view e).fs&&decide (2<=(view e).fs.length))
 | .bor es,e=>((view e).tag==5&&(view e).bo==.Or)&&(uK vis nk es (view e).fs&&decide (2<=(view e).fs.length))
 | .cmp a o b,e=>((view e).tag==6&&((view e).cs==[dI o]&&kD (view e).fs))&&(bD vis nk a (view e).a&&bD vis nk b (hd (view e).fs))
 | .uE a o b o' d,e=>((view e).tag==6&&((view e).cs==[dI o,dI o']&&kU (view e).fs))&&(bD vis nk a (view e).a&&(bD vis nk b (hd (view e).fs)&&bD vis nk d (dK (view e).fs)))
 | .u5 d a b,e=>(view e).tag==7&&(bD vis nk d (view e).a&&(bD vis nk a (view e).b&&bD vis nk b (view e).d))
 | .list es,e=>(view e).tag==8&&uK vis nk es (view e).fs
 | .tup es,e=>(view e).tag==9&&(uK vis nk es (view e).fs&&decide ((view e).fs.length<=20))
 | .uL,e=>(view e).tag==10&&((view e).ks.isEmpty&&(view e).fs.isEmpty)
 | .idx a i,e=>(view e).tag==11&&(bD vis nk a (view e).a&&bD vis nk i (view e).b)
 | .slice a lo hi st,e=>((view e).tag==11&&(view (view e).b).tag==12)&&(bD vis nk a (view e).a&&(yH vis nk lo (view (view e).b).oa&&(yH vis nk hi (view (view e).b).ob&&yH vis nk st (view (view e).b).od)))
 | .attr a n,e=>((view e).tag==13&&(view e).x==fU n)&&(bD vis nk a (view e).a&&(decide (n<=5)&&l9 (view e).a))
 | .comp elt t one it zip conds,e=>((view e).tag==15&&adF (view e).gs)&&((cZ one (gen (view e).gs).target).isSome&&(nd t (cE one (gen (view e).gs).target) vis nk (view e).sc&&
   (bD (bP t (cE one (gen (view e).gs).target) vis (view e).sc.names) (view e).sc.names elt (view e).a&&(uK (bP t (cE one (gen (view e).gs).target) vis (view e).sc.names) (view e).sc.names conds (gen (view e).gs).ifs&&asl vis nk one (bD vis nk it) zip (gen (view e).gs).iter))))
 | .call k es,e=>(fX e&&dO (cW k) (view e).a)&&(jj k&&(glob? nk (cW k)&&uK vis nk es (view e).fs))
 | .new k es,e=>(fX e&&dO (gF k) (view e).a)&&(glob? nk (gF k)&&(decide (k<=1)&&uK vis nk es (view e).fs))
 | .bi f es,e=>(fX e&&dO (dH f) (view e).a)&&(glob? nk (dH f)&&(if f=.isInt then(kU (view e).fs&&dO "int" (dK (view e).fs))&&(glob? nk "int"&&uK vis nk es [hd (view e).fs]) else uK vis nk es (view e).fs))
 | .tN m o es,e=>(fX e&&((view (view e).a).tag==13&&(view (view e).a).x==lY m))&&(fu (view (view e).a).a (view e).fs.length (view (view e).a).p (view e).p&&(bD vis nk o (view (view e).a).a&&uK vis nk es (view e).fs))
 | .most o,e=>((fX e&&(view e).fs.isEmpty)&&((view (view e).a).tag==13&&(view (view e).a).x=="most"))&&(fu (view (view e).a).a 0 (view (view e).a).p (view e).p&&bD vis nk o (view (view e).a).a)
 | .tB i t8,e=>((fX e&&(view e).fs.isEmpty)&&(view (view e).a).tag==1)&&(decide (t8=[t8.headD 0,mP t8])&&(vis.contains (i,(view (view e).a).x)&&(fw (view (view e).a).x&&(vis.contains (t8.headD 0,"width")&&vis.contains (mP t8,"height")))))
noncomputable def uK(vis:aN)(nk:aP):ub->List CD->Bool
 | .nil,fs=>fs.isEmpty
 | .cons e es,fs=> !fs.isEmpty&&(bD vis nk e (hd fs)&&uK vis nk es fs.tail)
noncomputable def yH(vis:aN)(nk:aP):ub->Option CD->Bool
 | .nil,o=>o.isNone
 | .cons e es,o=>rD es&&(o.isSome&&bD vis nk e (o.getD default))
noncomputable def asl(vis:aN)(nk:aP)(one:Bool)(P:CD->Bool):ub->CD->Bool
 | .nil,i=>P i
 | .cons e es,i=>rD es&&(((fX i&&kU (view i).fs)&&dO "zip" (view i).a)&&(glob? nk "zip"&&(!one&&(P (hd (view i).fs)&&bD vis nk e (dK (view i).fs)))))
end
variable {vis:aN}{nk:aP}
section
theorem mD{i:Nat}(h:vis.contains (i,x)=true):(i,x)∈vis:=by simpa using h
theorem acR{e:CD}(h:dP e=some x):∃p,e=.Name x p:=by
 unfold dP at h
 by_cases c:(view e).tag=1
 ·rw[CG c] at h;exact⟨_,lM (by rw[c];rfl) (C9.mpr (C0 h))⟩
 ·rw[CJ c] at h;cases h
theorem ajS(h:cZ true tg=some xs):∃x p,tg=.Name x p/\xs=[x]:=by refine o_ea (Ek.mp (show(dP tg).map (λx=>[x])=some xs from h)) λx h1 h2=>?_;obtain⟨p,h3⟩:=acR h1;exact(bR x p h3 h2.symm)
theorem rz(h:cZ false tg=some xs):∃es k p,tg=.Tuple es k p/\es.mapM dP=some xs:=by
 change(if(view tg).tag=9 then(view tg).fs.mapM dP else none)=some xs at h
 by_cases c:(view tg).tag=9
 ·rw[CG c] at h;exact(gc _ _ _ (qH (by rw[c];rfl)) h)
 ·rw[CJ c] at h;cases h
theorem nT{e:CD}{r:List CD}(h:(e::r).mapM dP=some xs):∃x p ys,e=.Name x p/\r.mapM dP=some ys/\xs=x::ys:=by
 rw[Gx] at h
 cases q:dP e with
 |none=>rw[q] at h;cases h
 |some x=>
  rw[q] at h;obtain⟨p,rfl⟩:=acR q
  cases q2:r.mapM dP with
  |none=>rw[q2] at h;cases h
  |some ys=>rw[q2] at h;cases h;exact(bZ x p ys rfl rfl rfl)
theorem eM{e:CD}(h:dO x e=true):e=.Name x (view e).p:=lM (aa h).1 (aa h).2
theorem gD{e g:CD}(h:fX e=true)(hg:(view e).a=g):e=.Call g (view e).fs [] (view e).p:=ag4 (aa h).1 (aa h).2 hg
theorem aaY{e g:CD}(h:e=.Call g (view e).fs [] p)(hf:(view e).fs.isEmpty=true):e=.Call g [] [] p:=by rw[DR.mp hf] at h;exact h
theorem agH{l:List CD}(h:(!l.isEmpty)=true):l=hd l::l.tail:=by
 cases l with
 |nil=>exact Ey h
 |cons a l=>rfl
theorem sA{o:Option CD}(h:o.isSome=true):o=some (o.getD default):=by
 cases o with
 |none=>exact Ey h
 |some a=>rfl
theorem rA(h:(cZ one tg).isSome=true):cZ one tg=some (cE one tg):=by
 unfold cE
 cases e:cZ one tg with
 |none=>rw[e] at h;exact Ey h
 |some a=>rfl
theorem rJ{b:Bool}(h:(!b)=true):b=false:=by
 cases b with
 |true=>exact Ey h
 |false=>rfl
mutual
theorem bG:∀(vis:aN)(nk:aP)(pe:PE)(e:CD),bD vis nk pe e=true->TE vis nk pe e
 |vis,nk,.var i,e,h=>⟨lM (aa h).1 (Du _),mD (aa (aa h).2).1,(aa (aa h).2).2⟩
 |vis,nk,.glob k,e,h=>⟨eM (aa h).1,(aa (aa h).2).1,Do (aa (aa h).2).2⟩
 |vis,nk,.s7 i,e,h=>lL (aa h).1 (aa h).2
 |vis,nk,.tH i,e,h=>lL (aa h).1 (aa h).2
 |vis,nk,.s9 i,e,h=>⟨lL (aa (aa h).1).1 (aa (aa h).1).2,Do (aa h).2⟩
 |vis,nk,.ug i,e,h=>lL (aa h).1 (aa h).2
 |vis,nk,.bin o a b,e,h=>⟨ag3 (aa (aa h).1).1 (aa (aa h).1).2,bG _ _ _ _ (aa (aa h).2).1,bG _ _ _ _ (aa (aa h).2).2⟩
 |vis,nk,.neg a,e,h=>⟨eUn (aa (aa h).1).1 (aa (aa h).1).2,bG _ _ _ _ (aa h).2⟩
 |vis,nk,.not a,e,h=>⟨eUn (aa (aa h).1).1 (aa (aa h).1).2,bG _ _ _ _ (aa h).2⟩
 |vis,nk,.band es,e,h=>⟨qE (aa (aa h).1).1 (aa (aa h).1).2,tT _ _ _ _ (aa (aa h).2).1,Do (aa (aa h).2).2⟩
 |vis,nk,.bor es,e,h=>⟨qE (aa (aa h).1).1 (aa (aa h).1).2,tT _ _ _ _ (aa (aa h).2).1,Do (aa (aa h).2).2⟩
 |vis,nk,.cmp a o b,e,h=>⟨abG (aa (aa h).1).1 (aa (aa (aa h).1).2).1 (rX (aa (aa (aa h).1).2).2),bG _ _ _ _ (aa (aa h).2).1,bG _ _ _ _ (aa (aa h).2).2⟩
 |vis,nk,.uE a o b o' d,e,h=>(bY (abG (aa (aa h).1).1 (aa (aa (aa h).1).2).1 (mz (aa (aa (aa h).1).2).2)) (bG _ _ _ _ (aa (aa h).2).1) (bG _ _ _ _ (aa (aa (aa h).2).2).1) (bG _ _ _ _ (aa (aa (aa h).2).2).2))
 |vis,nk,.u5 d a b,e,h=>(bY (eIf (aa h).1) (bG _ _ _ _ (aa (aa h).2).1) (bG _ _ _ _ (aa (aa (aa h).2).2).1) (bG _ _ _ _ (aa (aa (aa h).2).2).2))
 |vis,nk,.list es,e,h=>⟨ag8 (aa h).1,tT _ _ _ _ (aa h).2⟩
 |vis,nk,.tup es,e,h=>⟨qH (aa h).1,tT _ _ _ _ (aa (aa h).2).1,Do (aa (aa h).2).2⟩
 |vis,nk,.uL,e,h=>ag5 (aa h).1 (aa (aa h).2).1 (aa (aa h).2).2
 |vis,nk,.idx a i,e,h=>⟨qG (aa h).1,bG _ _ _ _ (aa (aa h).2).1,bG _ _ _ _ (aa (aa h).2).2⟩
 |vis,nk,.slice a lo hi st,e,h=>(gM ((qG (aa (aa h).1).1).trans (CH (λx=>PySem.Expr.Subscript (view e).a x (view e).p) (aha (aa (aa h).1).2))) (bG _ _ _ _ (aa (aa h).2).1) (wC _ _ _ _ (aa (aa (aa h).2).2).1) (wC _ _ _ _ (aa (aa (aa (aa h).2).2).2).1) (wC _ _ _ _ (aa (aa (aa (aa h).2).2).2).2))
 |vis,nk,.attr a n,e,h=>(bY (nb (aa (aa h).1).1 (aa (aa h).1).2) (bG _ _ _ _ (aa (aa h).2).1) (Do (aa (aa (aa h).2).2).1) ((aa (aa (aa h).2).2).2))
 |vis,nk,.comp elt t one it zip conds,e,h=>(gN (eLC (aa (aa h).1).1 (anW (aa (aa h).1).2)) (rA (aa (aa h).2).1) ((aa (aa (aa h).2).2).1) (bG _ _ _ _ (aa (aa (aa (aa h).2).2).2).1) (tT _ _ _ _ (aa (aa (aa (aa (aa h).2).2).2).2).1) (arN _ _ _ (λi h=>bG _ _ _ _ h) _ _ (aa (aa (aa (aa (aa h).2).2).2).2).2))
 |vis,nk,.call k es,e,h=>(bY (gD (aa (aa h).1).1 (eM (aa (aa h).1).2)) ((aa (aa h).2).1) ((aa (aa (aa h).2).2).1) (tT _ _ _ _ (aa (aa (aa h).2).2).2))
 |vis,nk,.new k es,e,h=>(bY (gD (aa (aa h).1).1 (eM (aa (aa h).1).2)) ((aa (aa h).2).1) (Do (aa (aa (aa h).2).2).1) (tT _ _ _ _ (aa (aa (aa h).2).2).2))
 |vis,nk,.bi f es,e,h=>⟨gD (aa (aa h).1).1 (eM (aa (aa h).1).2),(aa (aa h).2).1,by
   have h2:=(aa (aa h).2).2
   by_cases c:f=.isInt
   ·rw[CG c] at h2;exact .inr (bY c ((mz (aa (aa h2).1).1).trans (by rw[<-eM (aa (aa h2).1).2])) ((aa (aa h2).2).1) (tT _ _ _ _ (aa (aa h2).2).2))
   ·rw[CJ c] at h2;exact .inl ⟨c,tT _ _ _ _ h2⟩⟩
 |vis,nk,.tN m o es,e,h=>(bY (gD (aa (aa h).1).1 (nb (aa (aa (aa h).1).2).1 (aa (aa (aa h).1).2).2)) ((aa (aa h).2).1) (bG _ _ _ _ (aa (aa (aa h).2).2).1) (tT _ _ _ _ (aa (aa (aa h).2).2).2))
 |vis,nk,.most o,e,h=>⟨aaY (gD (aa (aa (aa h).1).1).1 (nb (aa (aa (aa h).1).2).1 (aa (aa (aa h).1).2).2)) (aa (aa (aa h).1).1).2,(aa (aa h).2).1,bG _ _ _ _ (aa (aa h).2).2⟩
 |vis,nk,.tB i t8,e,h=>(gN (aaY (gD (aa (aa (aa h).1).1).1 (lM (aa (aa h).1).2 (Du _))) (aa (aa (aa h).1).1).2) (Do (aa (aa h).2).1) (mD (aa (aa (aa h).2).2).1) ((aa (aa (aa (aa h).2).2).2).1) (mD (aa (aa (aa (aa (aa h).2).2).2).2).1) (mD (aa (aa (aa (aa (aa h).2).2).2).2).2))
theorem tT:∀(vis:aN)(nk:aP)(pe:ub)(e:List CD),uK vis nk pe e=true->u7 vis nk pe e
 |vis,nk,.nil,e,h=>DR.mp h
 |vis,nk,.cons p ps,fs,h=>⟨agH (aa h).1,bG _ _ _ _ (aa (aa h).2).1,tT _ _ _ _ (aa (aa h).2).2⟩
theorem wC:∀(vis:aN)(nk:aP)(pe:ub)(e:Option CD),yH vis nk pe e=true->TO vis nk pe e
 |vis,nk,.nil,e,h=>Es.mp h
 |vis,nk,.cons p es,o,h=>⟨acZ (aa h).1,sA (aa (aa h).2).1,bG _ _ _ _ (aa (aa h).2).2⟩
theorem arN:∀(vis:aN)(nk:aP)(one:Bool){P:CD->Bool}{Q:CD->Prop}(hP:∀i,P i=true->Q i)(pe:ub)(e:CD),asl vis nk one P pe e=true->TZ vis nk one Q pe e
 |vis,nk,one,P,Q,hP,.nil,e,h=>hP e h
 |vis,nk,one,P,Q,hP,.cons p es,e,h=>(gN (acZ (aa h).1) ((gD (aa (aa (aa (aa h).2).1).1).1 (eM (aa (aa (aa h).2).1).2)).trans (CH (λl=>Jy (.Name "zip" (view (view e).a).p) l [] (view e).p) (mz (aa (aa (aa (aa h).2).1).1).2))) ((aa (aa (aa h).2).2).1) (rJ (aa (aa (aa (aa h).2).2).2).1) (hP _ (aa (aa (aa (aa (aa h).2).2).2).2).1) (bG _ _ _ _ (aa (aa (aa (aa (aa h).2).2).2).2).2))
end
structure vi(e:CD):Prop where
 set:∀op,behindInMarks op e=false
 star:∀rest env,starEach (e::rest) env=(false,eval e env)::starEach rest env
 iter:∀env x,foldedSetIterable e env x=pure x
 swap:∀l env tg,(∀a gs sc p,e≠.ListComp a gs sc p)->swapsWith e tg l env=pure false
section
variable {e:CD}
theorem acP{x p}(h:e=.Name x p):vi e:=by subst h;exact⟨λZ=>rfl,λZ Z=>rfl,λZ Z=>rfl,λZ Z Z Z=>rfl⟩
theorem nX{k q p}(h:e=.Constant k q p):vi e:=by subst h;exact⟨λZ=>rfl,λZ Z=>rfl,λZ Z=>rfl,λZ Z Z Z=>rfl⟩
theorem ajN{l o r p}(h:e=.BinOp l o r p):vi e:=by subst h;exact⟨λZ=>rfl,λZ Z=>rfl,λZ Z=>rfl,λZ Z Z Z=>rfl⟩
theorem nUn{o l p}(h:e=.UnaryOp o l p):vi e:=by subst h;exact⟨λZ=>rfl,λZ Z=>rfl,λZ Z=>rfl,λZ Z Z Z=>rfl⟩
theorem acN{o l p}(h:e=.BoolOp o l p):vi e:=by subst h;exact⟨λZ=>rfl,λZ Z=>rfl,λZ Z=>rfl,λZ Z Z Z=>rfl⟩
theorem acO{l o r p}(h:e=.Compare l o r p):vi e:=by subst h;exact⟨λZ=>rfl,λZ Z=>rfl,λZ Z=>rfl,λZ Z Z Z=>rfl⟩
theorem nIf{t l r p}(h:e=.IfExp t l r p):vi e:=by subst h;exact⟨λZ=>rfl,λZ Z=>rfl,λZ Z=>rfl,λZ Z Z Z=>rfl⟩
theorem ajP{l p}(h:e=.List l p):vi e:=by subst h;exact⟨λZ=>rfl,λZ Z=>rfl,λZ Z=>rfl,λZ Z Z Z=>rfl⟩
theorem ajQ{l q p}(h:e=.Tuple l q p):vi e:=by subst h;exact⟨λZ=>rfl,λZ Z=>rfl,λZ Z=>rfl,λZ Z Z Z=>rfl⟩
theorem ajO{k l p}(h:e=.Dict k l p):vi e:=by subst h;exact⟨λZ=>rfl,λZ Z=>rfl,λZ Z=>rfl,λZ Z Z Z=>rfl⟩
theorem acQ{l r p}(h:e=.Subscript l r p):vi e:=by subst h;exact⟨λZ=>rfl,λZ Z=>rfl,λZ Z=>rfl,λZ Z Z Z=>rfl⟩
theorem ajM{l x p}(h:e=.Attribute l x p):vi e:=by subst h;exact⟨λZ=>rfl,λZ Z=>rfl,λZ Z=>rfl,λZ Z Z Z=>rfl⟩
theorem kr{l x k p}(h:e=.Call l x k p):vi e:=by subst h;exact⟨λZ=>rfl,λZ Z=>rfl,λZ Z=>rfl,λZ Z Z Z=>rfl⟩
theorem nLC{a gs sc p}(h:e=.ListComp a gs sc p):vi e:=⟨λZ=>by rw[h];rfl,λZ Z=>by rw[h];rfl,λZ Z=>by rw[h];rfl,λZ Z Z q=>CI h (q _ _ _ _)⟩
end
theorem TE.nice:∀{pe:PE}{e:CD},TE vis nk pe e->vi e
 | .var i,_,h=>acP h.1
 | .glob k,_,h=>acP h.1
 | .s7 k,_,h=>nX h
 | .tH k,_,h=>nX h
 | .s9 k,_,h=>nX h.1
 | .ug k,_,h=>nX h
 | .bin o a b,_,h=>ajN h.1
 | .neg a,_,h=>nUn h.1
 | .not a,_,h=>nUn h.1
 | .band es,_,h=>acN h.1
 | .bor es,_,h=>acN h.1
 | .cmp a o b,_,h=>acO h.1
 | .uE a o b o' d,_,h=>acO h.1
 | .u5 d a b,_,h=>nIf h.1
 | .list es,_,h=>ajP h.1
 | .tup es,_,h=>ajQ h.1
 | .uL,_,h=>ajO h
 | .idx a i,_,h=>acQ h.1
 | .slice a lo hi st,_,h=>acQ h.1
 | .attr a n,_,h=>ajM h.1
 | .comp elt t one it zip conds,_,h=>nLC h.1
 | .call k es,_,h=>kr h.1
 | .new k es,_,h=>kr h.1
 | .bi f es,_,h=>kr h.1
 | .tN m o es,_,h=>kr h.1
 | .most o,_,h=>kr h.1
 | .tB i t8,_,h=>kr h.1
end
def fK(vis:aN)(nk:aP)(is:List Nat)(xs:List Str):Bool:=(is.zip xs).all λp=>vis.contains p&&fw p.2&&(nk.lookup p.2==some .local||nk.lookup p.2==some .cell)
noncomputable def mO(a:Arguments)(ps:List Str):Bool:=a.posonlyargs.isEmpty&&a.vararg.isNone&&a.kwonlyargs.isEmpty&&a.kwarg.isNone&&a.defaults.isEmpty&&a.kw_defaults.isEmpty&&a.args.map (·.arg)==ps&&a.args.all (·.annotation.isNone)
def bM(e:CD):Bool:= !((view e).tag==15)
theorem aj3{e:CD}(h:bM e=true)(a:CD)(gs:List Comprehension)(sc:Scope)(p:Pos):e≠.ListComp a gs sc p:=by rintro rfl;exact Ey h
def oZ(e:CD):Bool:= !((view e).tag==9)||(!(view e).fs.all (constantsAlone 8)||(view e).fs.all (foldedForSure 8))
def pb(e:CD):Bool:= !((view e).tag==15&&dO "zip" (view (gen (view e).gs).iter).a)
set_option genInjectivity false in
set_option genSizeOf false in
structure Ns where
 tag:Nat
 a:CD
 b:CD
 o:Option CD
 o2:Option CD
 es:List CD
 x:List Stmt
 y:List Stmt
 z:List Stmt
 hs:List Dy
 p:Pos
 n:Str
 ar:Arguments
 tp:List TypeParam
 sc:Scope
 ts:Option Scope
 bn:Str
noncomputable def gR(t:Nat)(p:Pos):Ns:=⟨t,default,default,none,none,[],[],[],[],[],p,"",default,[],default,none,""⟩
def ag:Stmt->Ns
 | .Assign ts v p=>{gR 1 p with es:=ts,a:=v}
 | .Expr v p=>{gR 2 p with a:=v}
 | .Return o p=>{gR 3 p with o:=o}
 | .If t x y p=>{gR 4 p with a:=t,x:=x,y:=y}
 | .While t x y p=>{gR 5 p with a:=t,x:=x,y:=y}
 | .For tg it x y p=>{gR 6 p with a:=tg,b:=it,x:=x,y:=y}
 | .Raise o o2 p=>{gR 7 p with o:=o,o2:=o2}
 | .Try x hs y z p=>{gR 8 p with x:=x,hs:=hs,y:=y,z:=z}
 | .FunctionDef n ar x ds o tp sc ts bn p=>{gR 9 p with n:=n,ar:=ar,x:=x,es:=ds,o:=o,tp:=tp,sc:=sc,ts:=ts,bn:=bn}
 |_=>gR 0 default
noncomputable def aaQ(n:Ns):Stmt:=
 if n.tag=1 then .Assign n.es n.a n.p else if n.tag=2 then .Expr n.a n.p else if n.tag=3 then .Return n.o n.p else if n.tag=4 then .If n.a n.x n.y n.p else if n.tag=5 then .While n.a n.x n.y n.p
 else if n.tag=6 then .For n.a n.b n.x n.y n.p else if n.tag=7 then .Raise n.o n.o2 n.p else if n.tag=8 then .Try n.x n.hs n.y n.z n.p else .FunctionDef n.n n.ar n.x n.es n.o n.tp n.sc n.ts n.bn n.p
theorem aqH(e:Stmt)(h:(ag e).tag≠0):e=aaQ (ag e):=by cases e<;>first |rfl |exact CI rfl h
theorem iy{e:Stmt}{t:Nat}(ht:((ag e).tag==t)=true)(h0:t≠0):e=aaQ {ag e with tag:=t}:=by
 have h:(ag e).tag=t:=eq_of_beq ht;have:=aqH e (by rw[h];exact h0);rw[this]
 conv=>rhs;rw[<-this]
 rw[<-h]
noncomputable def bL(l:List Stmt):Stmt:=l.headD default
noncomputable def hX:Dy->CD
 | .ExceptHandler t _ _ _=>t.getD default
noncomputable def hN:Dy->Bool
 | .ExceptHandler t n _ _=>t.isSome&&n.isNone
noncomputable def hB:Dy->List Stmt
 | .ExceptHandler _ _ x _=>x
noncomputable def hP:Dy->Pos
 | .ExceptHandler _ _ _ p=>p
theorem aib{h:Dy}{e:CD}(q:hN h=true)(he:hX h=e):h=.ExceptHandler (some e) none (hB h) (hP h):=by
 obtain⟨t,n,x,p⟩:=h;obtain⟨q1,q2⟩:=aa q;subst he
 cases n with
 |some _=>exact Ey q2
 |none=>
  cases t with
  |none=>exact Ey q1
  |some e=>rfl
noncomputable def iN(l:List Dy):Dy:=l.headD (.ExceptHandler none none [] default)
theorem agI{l:List Dy}(h:(!l.isEmpty)=true):l=iN l::l.tail:=by
 cases l with
 |nil=>exact Ey h
 |cons a l=>rfl
theorem na{l:List Stmt}(h:(!l.isEmpty)=true):l=bL l::l.tail:=by
 cases l with
 |nil=>exact Ey h
 |cons a l=>rfl
noncomputable def ow(l:List Stmt):Bool:=l.length==1
theorem rW{l:List Stmt}(h:ow l=true):l=[bL l]:=by
 match l,h with
 |[a],_=>rfl
noncomputable def isStr:Const->Bool
 | .str _=>true
 |_=>false
noncomputable def aeq:Const->Str
 | .str m=>m
 |_=>""
theorem ap3{k:Const}(h:isStr k=true):k=.str (aeq k):=by cases k<;>first |rfl |exact Ey h
def qM(k:Nat)(e:CD):CD:=.Call (.Name (cV k) (view (view e).a).p) [.Constant (.str (aeq (view (hd (view e).fs)).k)) (view (hd (view e).fs)).q (view (hd (view e).fs)).p] [] (view e).p
def abY(k:Nat)(e:CD):Bool:=(fX e&&dO (cV k) (view e).a)&&(kD (view e).fs&&((view (hd (view e).fs)).tag==2&&isStr (view (hd (view e).fs)).k))
theorem aht{e:CD}(h:abY k e=true):e=qM k e:=by have h1:=aa h;have h2:=aa h1.1;have h3:=aa h1.2;have h4:=aa h3.2;have e1:=gD h2.1 (eM h2.2);have e2:=lL h4.1 (C9.mpr (ap3 h4.2));refine e1.trans ?_;unfold qM;rw[<-e2];exact CH (λl=>Jy _ l [] _) (rX h3.1)
def TT(vis:aN)(nk:aP)(t:PT)(tg v:CD):Prop:=match t with
 | .var i=>tg=.Name (view tg).x (view tg).p/\fK vis nk [i] [(view tg).x]=true/\pb v=true
 | .tup is=>tg=.Tuple (view tg).fs (view tg).q (view tg).p/\cZ false tg=some (cE false tg)/\is.length=(cE false tg).length/\fK vis nk is (cE false tg)=true/\is.Nodup/\bM v=true/\oZ v=true
 | .sub a i=>tg=.Subscript (view tg).a (view tg).b (view tg).p/\bM v=true/\TE vis nk a (view tg).a/\TE vis nk i (view tg).b
def aa6(vis:aN)(nk:aP)(t:PT)(tg v:CD):Bool:=match t with
 | .var i=>(view tg).tag==1&&(fK vis nk [i] [(view tg).x]&&pb v)
 | .tup is=>(view tg).tag==9&&((cZ false tg).isSome&&(decide (is.length=(cE false tg).length)&&(fK vis nk is (cE false tg)&&(decide is.Nodup&&(bM v&&oZ v)))))
 | .sub a i=>(view tg).tag==11&&(bM v&&(bD vis nk a (view tg).a&&bD vis nk i (view tg).b))
theorem ags:∀{t:PT}{tg v:CD},aa6 vis nk t tg v=true->TT vis nk t tg v
 | .var i,_,_,h=>⟨lM (aa h).1 (Du _),aa (aa h).2⟩
 | .tup is,_,_,h=>(gN (qH (aa h).1) (rA (aa (aa h).2).1) (Do (aa (aa (aa h).2).2).1) ((aa (aa (aa (aa h).2).2).2).1) (Do (aa (aa (aa (aa (aa h).2).2).2).2).1) (aa (aa (aa (aa (aa (aa h).2).2).2).2).2))
 | .sub a i,_,_,h=>(bY (qG (aa h).1) ((aa (aa h).2).1) (bG _ _ _ _ (aa (aa (aa h).2).2).1) (bG _ _ _ _ (aa (aa (aa h).2).2).2))
mutual
noncomputable def TS(vis:aN)(nk:aP):PS->Stmt->Prop
 | .assign t e,s=>s=.Assign [hd (ag s).es] (ag s).a (ag s).p/\TE vis nk e (ag s).a/\TT vis nk t (hd (ag s).es) (ag s).a
 | .expr e,s=>s=.Expr (ag s).a (ag s).p/\bM (ag s).a=true/\TE vis nk e (ag s).a
 | .ret e,s=>s=.Return (some ((ag s).o.getD default)) (ag s).p/\TE vis nk e ((ag s).o.getD default)
 | .ifs c a b,s=>s=.If (ag s).a (ag s).x (ag s).y (ag s).p/\TE vis nk c (ag s).a/\vo vis nk a (ag s).x/\vo vis nk b (ag s).y
 | .uO c b,s=>s=.While (ag s).a (ag s).x [] (ag s).p/\TE vis nk c (ag s).a/\vo vis nk b (ag s).x
 | .for t one it b,s=>s=.For (ag s).a (ag s).b (ag s).x [] (ag s).p/\cZ one (ag s).a=some (cE one (ag s).a)/\t.length=(cE one (ag s).a).length/\fK vis nk t (cE one (ag s).a)=true/\TE vis nk it (ag s).b/\vo vis nk b (ag s).x
 | .raise k,s=>s=.Raise (some (qM k ((ag s).o.getD default))) none (ag s).p/\glob? nk (cV k)=true/\k<=2
 | .vK e hs,s=>s=.Try [.Expr (ag (bL (ag s).x)).a (ag (bL (ag s).x)).p] (ag s).hs [] [] (ag s).p/\bM (ag (bL (ag s).x)).a=true/\TE vis nk e (ag (bL (ag s).x)).a/\AG vis nk hs (ag s).hs
 | .defn _ _,_=>False
noncomputable def vo(vis:aN)(nk:aP):tQ->List Stmt->Prop
 | .nil,ss=>ss=[]
 | .cons s ss,ts=>ts=bL ts::ts.tail/\TS vis nk s (bL ts)/\vo vis nk ss ts.tail
noncomputable def AG(vis:aN)(nk:aP):xv->List Dy->Prop
 | .nil,hs=>hs=[]
 | .cons k b hs,l=>l=.ExceptHandler (some (.Name (cV k) (view (hX (iN l))).p)) none (hB (iN l)) (hP (iN l))::l.tail/\glob? nk (cV k)=true/\k<=2/\vo vis nk b (hB (iN l))/\AG vis nk hs l.tail
end
mutual
noncomputable def qu(vis:aN)(nk:aP):PS->Stmt->Bool
 | .assign t e,s=>((ag s).tag==1&&kD (ag s).es)&&(bD vis nk e (ag s).a&&aa6 vis nk t (hd (ag s).es) (ag s).a)
 | .expr e,s=>(ag s).tag==2&&(bM (ag s).a&&bD vis nk e (ag s).a)
 | .ret e,s=>((ag s).tag==3&&(ag s).o.isSome)&&bD vis nk e ((ag s).o.getD default)
 | .ifs c a b,s=>(ag s).tag==4&&(bD vis nk c (ag s).a&&(u0 vis nk a (ag s).x&&u0 vis nk b (ag s).y))
 | .uO c b,s=>((ag s).tag==5&&(ag s).y.isEmpty)&&(bD vis nk c (ag s).a&&u0 vis nk b (ag s).x)
 | .for t one it b,s=>((ag s).tag==6&&(ag s).y.isEmpty)&&((cZ one (ag s).a).isSome&&(decide (t.length=(cE one (ag s).a).length)&&(fK vis nk t (cE one (ag s).a)&&(bD vis nk it (ag s).b&&u0 vis nk b (ag s).x))))
 | .raise k,s=>(((ag s).tag==7&&(ag s).o2.isNone)&&((ag s).o.isSome&&abY k ((ag s).o.getD default)))&&(glob? nk (cV k)&&decide (k<=2))
 | .vK e hs,s=>(((ag s).tag==8&&(ow (ag s).x&&(ag (bL (ag s).x)).tag==2))&&((ag s).y.isEmpty&&(ag s).z.isEmpty))&&(bM (ag (bL (ag s).x)).a&&(bD vis nk e (ag (bL (ag s).x)).a&&x8 vis nk hs (ag s).hs))
 | .defn _ _,_=>false
noncomputable def u0(vis:aN)(nk:aP):tQ->List Stmt->Bool
 | .nil,ss=>ss.isEmpty
 | .cons s ss,ts=> !ts.isEmpty&&(qu vis nk s (bL ts)&&u0 vis nk ss ts.tail)
noncomputable def x8(vis:aN)(nk:aP):xv->List Dy->Bool
 | .nil,ss=>ss.isEmpty
 | .cons k b hs,l=>(!l.isEmpty&&(hN (iN l)&&dO (cV k) (hX (iN l))))&&(glob? nk (cV k)&&(decide (k<=2)&&(u0 vis nk b (hB (iN l))&&x8 vis nk hs l.tail)))
end
section
variable {s:Stmt}
theorem abF(ht:((ag s).tag==1)=true)(h:kD (ag s).es=true):s=.Assign [hd (ag s).es] (ag s).a (ag s).p:=by rw[<-rX h];exact iy ht (by decide)
theorem qF(ht:((ag s).tag==2)=true):s=.Expr (ag s).a (ag s).p:=iy ht (by decide)
theorem abH(ht:((ag s).tag==3)=true)(h:(ag s).o.isSome=true):s=.Return (some ((ag s).o.getD default)) (ag s).p:=by rw[<-sA h];exact iy ht (by decide)
theorem ag7(ht:((ag s).tag==4)=true):s=.If (ag s).a (ag s).x (ag s).y (ag s).p:=iy ht (by decide)
theorem ahc(ht:((ag s).tag==5)=true)(h:(ag s).y.isEmpty=true):s=.While (ag s).a (ag s).x [] (ag s).p:=by rw[<-DR.mp h];exact iy ht (by decide)
theorem ag6(ht:((ag s).tag==6)=true)(h:(ag s).y.isEmpty=true):s=.For (ag s).a (ag s).b (ag s).x [] (ag s).p:=by rw[<-DR.mp h];exact iy ht (by decide)
theorem ag9{e:CD}(ht:((ag s).tag==7)=true)(h:(ag s).o2.isNone=true)(he:(ag s).o=some e):s=.Raise (some e) none (ag s).p:=by rw[<-he,<-Es.mp h];exact iy ht (by decide)
theorem ahb{x:Stmt}(ht:((ag s).tag==8)=true)(hx:(ag s).x=[x])(h1:(ag s).y.isEmpty=true)(h2:(ag s).z.isEmpty=true):s=.Try [x] (ag s).hs [] [] (ag s).p:=by rw[<-hx];have:=iy ht (by decide);change s=.Try (ag s).x (ag s).hs (ag s).y (ag s).z (ag s).p at this;rw[DR.mp h1,DR.mp h2] at this;exact this
end
mutual
theorem aa5:∀(vis:aN)(nk:aP)(p:PS)(s:Stmt),qu vis nk p s=true->TS vis nk p s
 |vis,nk,.assign t e,s,h=>⟨abF (aa (aa h).1).1 (aa (aa h).1).2,bG _ _ _ _ (aa (aa h).2).1,ags (aa (aa h).2).2⟩
 |vis,nk,.expr e,s,h=>⟨qF (aa h).1,(aa (aa h).2).1,bG _ _ _ _ (aa (aa h).2).2⟩
 |vis,nk,.ret e,s,h=>⟨abH (aa (aa h).1).1 (aa (aa h).1).2,bG _ _ _ _ (aa h).2⟩
 |vis,nk,.ifs c a b,s,h=>(bY (ag7 (aa h).1) (bG _ _ _ _ (aa (aa h).2).1) (t7 _ _ _ _ (aa (aa (aa h).2).2).1) (t7 _ _ _ _ (aa (aa (aa h).2).2).2))
 |vis,nk,.uO c b,s,h=>⟨ahc (aa (aa h).1).1 (aa (aa h).1).2,bG _ _ _ _ (aa (aa h).2).1,t7 _ _ _ _ (aa (aa h).2).2⟩
 |vis,nk,.for t one it b,s,h=>(gN (ag6 (aa (aa h).1).1 (aa (aa h).1).2) (rA (aa (aa h).2).1) (Do (aa (aa (aa h).2).2).1) ((aa (aa (aa (aa h).2).2).2).1) (bG _ _ _ _ (aa (aa (aa (aa (aa h).2).2).2).2).1) (t7 _ _ _ _ (aa (aa (aa (aa (aa h).2).2).2).2).2))
 |vis,nk,.raise k,s,h=>⟨ag9 (aa (aa (aa h).1).1).1 (aa (aa (aa h).1).1).2 ((sA (aa (aa (aa h).1).2).1).trans (CH some (aht (aa (aa (aa h).1).2).2))),(aa (aa h).2).1,Do (aa (aa h).2).2⟩
 |vis,nk,.vK e hs,s,h=>(bY (ahb (aa (aa (aa h).1).1).1 ((rW (aa (aa (aa (aa h).1).1).2).1).trans (CH (λx=>[x]) (qF (aa (aa (aa (aa h).1).1).2).2))) (aa (aa (aa h).1).2).1 (aa (aa (aa h).1).2).2) ((aa (aa h).2).1) (bG _ _ _ _ (aa (aa (aa h).2).2).1) (aro _ _ _ _ (aa (aa (aa h).2).2).2))
 |vis,nk,.defn i k,s,h=>Ey h
theorem t7:∀(vis:aN)(nk:aP)(p:tQ)(s:List Stmt),u0 vis nk p s=true->vo vis nk p s
 |vis,nk,.nil,ss,h=>DR.mp h
 |vis,nk,.cons s ss,ts,h=>⟨na (aa h).1,aa5 _ _ _ _ (aa (aa h).2).1,t7 _ _ _ _ (aa (aa h).2).2⟩
theorem aro:∀(vis:aN)(nk:aP)(p:xv)(s:List Dy),x8 vis nk p s=true->AG vis nk p s
 |vis,nk,.nil,ss,h=>DR.mp h
 |vis,nk,.cons k b hs,l,h=>(gM ((agI (aa (aa h).1).1).trans (CH (·::l.tail) (aib (aa (aa (aa h).1).2).1 (eM (aa (aa (aa h).1).2).2)))) ((aa (aa h).2).1) (Do (aa (aa (aa h).2).2).1) (t7 _ _ _ _ (aa (aa (aa (aa h).2).2).2).1) (aro _ _ _ _ (aa (aa (aa (aa h).2).2).2).2))
end
section
open Builtin Builtin.ObjectAttr
noncomputable def aT:Nat->Cz
 |0=>51
 |1=>63
 |_=>75
noncomputable def bK:Nat->Cz
 |2=>165 |3=>172 |4=>177 |5=>184 |6=>191 |7=>198 |8=>205 |9=>210 |10=>217 |11=>224 |12=>231 |13=>236 |14=>243 |15=>250 |16=>260 |17=>267 |18=>274
 |19=>281 |20=>288 |21=>295 |22=>300 |23=>305 |24=>312 |25=>319 |26=>326 |27=>331 |28=>336 |29=>341 |30=>346 |31=>353 |40=>144 |_=>0
noncomputable def lQ(np nv:Nat)(vis:aN)(ps:List Str)(nk:aP):Bool:=decide (ps.length=np)&&decide ps.Nodup&&bQ vis&&decide (np<=nv)&&(vis.take np==(CL np).zip ps)&&
 vis.all (λp=>decide (p.1<nv)&&(nk.lookup p.2==some .local||nk.lookup p.2==some .cell))&&nk.all (λp=>p.2 !=.free)
structure vL(np nv:Nat)(vis:aN)(ps:List Str)(nk:aP):Prop where
 len:ps.length=np
 nodup:ps.Nodup
 ok:bQ vis=true
 le:np<=nv
 par:∀i x,ps[i]?=some x->(i,x)∈vis
 kind:∀i x,(i,x)∈vis->i<nv/\(nk.lookup x=some .local\/nk.lookup x=some .cell)
 ar8:∀x,nk.lookup x≠some .free
structure vg(B:CF)(a:Cz)(fd:FuncData)(body:List Stmt)(ps:List Str):Prop where
 ob:∃o,B.get? a=some o/\o.data=.func fd
 body:fd.body=.stmts body
 glob:fd.globals=Df
 blt:fd.builtins=Ec
 dflt:fd.defaults=.none
 args:mO fd.params ps=true
 kind:fd.scope.kind=.function
 gen:fd.scope.isGenerator=false
 co:fd.scope.isCoroutine=false
 code:B.CodeRec fd.code fd.qualname
structure wU(B:CF)(f:Cz)(cells:List (Str×Cz)):Prop where
 ex:∃fd body,vg B f fd body []/\vo [(0,("width":Str)),(1,("height":Str))] fd.scope.names ig body/\(∀x∈fd.scope.names,x.2≠.cell)/\(∀x a,fd.closure.lookup x=some a->cells.lookup x=some a/\(x=("width":Str)\/x=("height":Str)))/\
  (∀x,fd.scope.names.lookup x=some .free↔(x=("width":Str)\/x=("height":Str)))/\(∀x,x=("width":Str)\/x=("height":Str)->∃a,fd.closure.lookup x=some a)/\∀x y a,fd.closure.lookup x=some a->fd.closure.lookup y=some a->x=y
def FnAt(B:CF)(k np nv:Nat)(bd:tQ):Prop:=∃fd body ps vis,vg B (bK k) fd body ps/\fd.closure=[]/\vL np nv vis ps fd.scope.names/\vo vis fd.scope.names bd body
theorem vg.mono{a:Cz}{ps:List Str}(D:vg B a fd body ps)(hB:B.StaysIn B'):vg B' a fd body ps:=⟨o_ea D.ob λo h1 h2=>(ae o (hB _ _ h1) h2),D.body,D.glob,D.blt,D.dflt,D.args,D.kind,D.gen,D.co,D.code.keeps hB⟩
theorem wU.mono{f:Cz}{cells:List (Str×Cz)}(D:wU B f cells)(hB:B.StaysIn B'):wU B' f cells:=o_eea D.ex λfd body h1 h2=>⟨fd,body,h1.mono hB,h2⟩
theorem FnAt.mono{np:Nat}(h:FnAt B k np nv bd)(hB:B.StaysIn B'):FnAt B' k np nv bd:=o_eeeea h λfd body ps vis h1 h2=>(nH fd body ps vis (h1.mono hB) h2)
structure Stores(K:Frag)(C:Cz)(name:Str)(cd:ClassData):Prop where
 cls:clsIn K C=some cd
 dict:cd.hasDict=true
 ne:cd.mro.isEmpty=false
 obj:cd.mro.contains (.type "object")=true
 pass:∀self,refuseLoop self "__setattr__" cd.mro=pure ()
 take:takerIn K C name=some none
 set:findIn K (.ref C) "__setattr__"=some (some (.builtin "object.__setattr__"))
noncomputable def ju:Nat->Cz
 |0=>92
 |_=>127
def pJ(x:Str)(e:CD):Bool:=(view e).tag==13&&(view e).x==x
theorem aar{e:CD}(h:pJ x e=true)(hl:(view e).a=l):e=.Attribute l x (view e).p:=by rw[<-hl];exact nb (aa h).1 (aa h).2
def ad4(n:Str)(e:CD):Bool:=pJ n e&&dO "self" (view e).a
theorem apr{n:Str}{e:CD}(h:ad4 n e=true):e=.Attribute (.Name "self" (view (view e).a).p) n (view e).p:=aar (aa h).1 (eM (aa h).2)
def iR(n:Str)(s:Stmt):Bool:=((ag s).tag==1&&kD (ag s).es)&&(ad4 n (hd (ag s).es)&&dO n (ag s).a)
def re(k:Nat):List Stmt->Bool
 |[a,b,c]=>iR (bt k 0) a&&iR (bt k 1) b&&iR (bt k 2) c
 |_=>false
def dM(k:Nat):List Str:= ["self",bt k 0,bt k 1,bt k 2]
structure uJ(K:Frag)(B:CF)(k:Nat):Prop where
 makes:makesIn K (bO k)=true
 init:findIn K (.ref (bO k)) "__init__"=some (some (.ref (ju k)))
 fn:typeIn K (.ref (ju k))=some (.type "function")
 st:∀i,i<3->∃cd,Stores K (bO k) (bt k i) cd
 fd:∃fd body,vg B (ju k) fd body (dM k)/\fd.closure=[]/\re k body=true/\∀x∈dM k,fd.scope.names.lookup x=some .local
theorem uJ.mono(N:uJ K B k)(hB:B.StaysIn B'):uJ K B' k:=⟨N.makes,N.init,N.fn,N.st,o_eea N.fd λfd body h1 h2=>(bR fd body (h1.mono hB) h2)⟩
def aeW(C:Cz)(o:Obj):Prop:=∃nm q N bs bm sn sub ab col dd k0 k1 k2 k3 k5,o=excClassObj nm q C N bs bm true sn sub ab col dd k0 k1 k2 k3 k5 "Exception.__new__"/\bm.contains (.type "Exception")=true/\bm.contains (.type "BaseException")=true/\
  bm.contains (.type "AttributeError")=false/\bm.contains (.type "NameError")=false/\∀k,bm.contains (.ref (aT k))=false
structure uQ(B:CF)(C:Cz):Prop where
 at':∃o,B.get? C=some o/\aeW C o
theorem uQ.mono(x:uQ B C)(hB:B.StaysIn B'):uQ B' C:=⟨x.at'.elim λo h=>(ae o (hB _ _ h.1) h.2)⟩
def aaV(b:CD):Bool:=((fX b&&(pJ "__init__" (view b).a&&dO "Exception" (view (view b).a).a))&&(kU (view b).fs&&(dO "self" (hd (view b).fs)&&dO "message" (dK (view b).fs))))&&(view (view b).a).p.endLine==(view b).p.line
def aaW(b:CD):CD:=.Call (.Attribute (.Name "Exception" (view (view (view b).a).a).p) "__init__" (view (view b).a).p) [.Name "self" (view (hd (view b).fs)).p,.Name "message" (view (dK (view b).fs)).p] [] (view b).p
theorem agl{b:CD}(h:aaV b=true):b=aaW b:=by have h1:=aa (aa h).1;have h2:=aa h1.1;have h3:=aa h2.2;have h4:=aa h1.2;have h5:=aa h4.2;have e1:=gD h2.1 (aar h3.1 (eM h3.2));refine e1.trans ?_;unfold aaW;rw[<-eM h5.1,<-eM h5.2,<-mz h4.1]
def s5(b:List Stmt):Bool:=((!b.isEmpty&&ow b.tail)&&((ag (bL b)).tag==2&&aaV (ag (bL b)).a))&&iR "message" (bL b.tail)
noncomputable def fJ:List Str:= ["self","message"]
structure uI(K:Frag)(B:CF)(k:Nat):Prop where
 cls:uQ B (aT k)
 init:findIn K (.ref (aT k)) "__init__"=some (some (.ref 35))
 fn:typeIn K (.ref 35)=some (.type "function")
 st:∃cd,Stores K (aT k) "message" cd
 keep:keepIn K (.ref (aT k))=true
 fd:∃fd body,vg B 35 fd body fJ/\fd.closure=[]/\s5 body=true/\(∀x∈fJ,fd.scope.names.lookup x=some .local)/\fd.scope.names.lookup ("Exception":Str)=some .globalImplicit
theorem uI.mono(N:uI K B k)(hB:B.StaysIn B'):uI K B' k:=⟨N.cls.mono hB,N.init,N.fn,N.st,N.keep,o_eea N.fd λfd body h1 h2=>(bR fd body (h1.mono hB) h2)⟩
end
noncomputable def lA:BI->Cy
 | .len=>.builtin "len" | .int=>.type "int" | .bytes=>.type "bytes" | .list=>.type "list" | .bytearray=>.type "bytearray" | .max=>.builtin "max" | .min=>.builtin "min" | .all=>.builtin "all"
 | .isInt=>.builtin "isinstance" | .str=>.type "str" | .range=>.type "range"
def vN{K:Type}(B:CF)(es:List (K×AV))(kvs:List (K×Cy)):Prop:=kvs.map (·.1)=es.map (·.1)/\∀μ,tD B μ (es.map (·.2)) (kvs.map (·.2))
theorem vN.mono{K:Type}{es:List (K×AV)}{kvs:List (K×Cy)}(h:vN B es kvs)(hB:B.StaysIn B'):vN B' es kvs:=⟨h.1,λμ=>(h.2 μ).mono hB (Pre.refl _)⟩
structure arF(K:Frag):Prop where
 attrs:∀c n i,mQ c n=some i->plainGet K (bO c) (fU n)=true/\hasDictIn K (bO c)=true/\∃a,findIn K (.ref (bO c)) (fU n)=some a/\noGet K a=true
 cls:∀k,k<=1->keepIn K (.ref (bO k))=true
 most:plainGet K 147 "most"=true/\findIn K (.ref 147) "most"=some (some (.ref 144))/\isFn K (.ref 144)=true
structure uk(prog:Program)(w:CQ)(B:CF):Prop where
 ns:∃g b,B.Ns Df g/\B.Ns Ec b/\(∀k,k<=5->∃cv,g (eG k)=some cv/\∀μ,VR B μ (lR k) cv)/\
  (∀k np nv bd,dJ k=some (np,nv,bd)->k<40->g (cW k)=some (.ref (bK k)))/\(∀k,k<=1->g (gF k)=some (.ref (bO k)))/\(∀k,k<=2->g (cV k)=some (.ref (aT k)))/\
  (∀f,g (dH f)=none/\b (dH f)=some (lA f))/\g "zip"=none/\b "zip"=some (.type "zip")/\g "Exception"=none/\b "Exception"=some (.type "Exception")
 nolimit:B.NoLimit
 mods:∃o,B.get? sysModules=some o
 kf:∃K:Frag,K.In B/\arF K
 kx:∃K:Frag,K.In B/\(∀k,k<=1->uJ K B k)/\∀k,k<=2->uI K B k
 wW:∀k np nv bd,dJ k=some (np,nv,bd)->k≠41->k≠30->k≠31->FnAt B k np nv bd
 tabI:∀k,k=3\/k=4->∃kvs:List (Int×Cy),B.DictOf (intKind prog w) (ee k) kvs/\vN B (tabI k) kvs
 tabS:∃kvs:List (Str×Cy),B.DictOf (strKind prog w) (ee 5) kvs/\vN B (tabS 5) kvs
theorem uk.mono{w:CQ}(G:uk prog w B)(hB:B.StaysIn B'):uk prog w B':=by
 obtain⟨g,b,h1,h2,h3,h4⟩:=(G.ns);exact⟨(jx g b (h1.keeps hB) (h2.keeps hB) (λk hk=>let⟨cv,x,y⟩:=h3 k hk;(ae cv x (λμ=>(y μ).mono hB (Pre.refl _)))) h4),G.nolimit.keeps hB,let⟨o,e⟩:=G.mods;⟨o,hB _ _ e⟩,o_ea G.kf λK x y=>(ae K (x.keeps hB) y),o_eaa G.kx λK x y z=>(aI K (x.keeps hB) (λk hk=>(y k hk).mono hB) (λk hk=>(z k hk).mono hB)),λk np nv bd e q q2 q3=>(G.wW k np nv bd e q q2 q3).mono hB,
  λk hk=>o_ea (G.tabI k hk) λkvs x y=>(ae kvs (x.keep hB) (y.mono hB)),o_ea G.tabS λkvs x y=>(ae kvs (x.keep hB) (y.mono hB))⟩
theorem uk.fns{w:CQ}(G:uk prog w B)(k np nv:Nat)(bd:tQ)(e:dJ k=some (np,nv,bd))(q:k≠41)(q2:k≠30)(q3:k≠31):∃ob fd,B.get? (bK k)=some ob/\ob.data=.func fd:=o_eeeea (G.wW k np nv bd e q q2 q3) λfd body ps vis h1 h2=>o_ea h1.ob λo h3 h4=>(bR o fd h3 h4)
structure tG where
 prog:Program
 w:CQ
 U:tm
 fs:List Env
 Γ:Ctx
def hJ(U:tm)(fs:List Env)(k:Nat)(B:CF)(μ:List Cz)(h:CF)(e:Cz):Prop:=
 ∃base:CF,B.StaysIn base/\(∀a∈μ,∀o,h.get? a=some o->base.get? a=some o)/\(∀a o,U a o->Ex o->base.get? a=some o)/\base.StaysIn h/\base.get? e=none/\h.FunFrames base fs/\
  ∃oe vs,h.get? e=some oe/\oe.cls=.ref (aT k)/\oe.data=.fields vs/\(vs[1]?=some .none\/∃T oT ts fl,vs[1]?=some (.ref T)/\base.get? T=none/\T≠e/\h.get? T=some oT/\oT.data=.fields ts/\
   ts[3]?=some fl/\(fl=.none\/∃env L,fs.head? =some env/\env.frame=some L/\fl=Dp L))/\vs[2]?=some .none
section
variable {δ:Type}
def s6(c:tG)(s:CC)(B:CF)(μ:List Cz)(Rel:CF->List Cz->α->β->Prop)(r:R α)(Q:β->CC->Prop)(E:Cy->CC->Prop):Prop:=match r with
 | .ok a H'=>∀B' th h' t' b,B.StaysIn B'->Pre μ th->Inv c.prog c.w B' c.U th H' h'->Rel B' th a b->Q b {s with heap:=h',toks:=t'}
 | .exc k H'=>∀B' th h' t' e,B.StaysIn B'->Pre μ th->Inv c.prog c.w B' c.U th H' h'->hJ c.U c.fs k B' th h' e->E (.ref e) {s with heap:=h',toks:=t'}
 | .bad=>False
theorem s6.eq{c:tG}{Rel:CF->List Cz->α->β->Prop}{r r':R α}{Q:β->CC->Prop}(h:r=r')(P:s6 c s B μ Rel r' Q E):s6 c s B μ Rel r Q E:=h▸P
theorem s6.to{c:tG}{Rel:CF->List Cz->α->β->Prop}{r r':R α}{Q:β->CC->Prop}(P:s6 c s B μ Rel r Q E)(h:r=r'):s6 c s B μ Rel r' Q E:=h▸P
theorem s6.beq{c:tG}{Rel:CF->List Cz->α->β->Prop}{r r':R γ}{f:γ->AH->R α}{Q:β->CC->Prop}(h:r=r')(P:s6 c s B μ Rel (r'.bind f) Q E):s6 c s B μ Rel (r.bind f) Q E:=h▸P
theorem abU{a:PE}{m:Nat}{H1:AH}{x:AV}(h:ev Γ a m ρ H=.ok x H1):uc Γ (.cons a .nil) m ρ H=.ok [x] H1:=by show(ev Γ a m ρ H).bind _=_;rw[h];rfl
theorem s6.shift{c:tG}{Rel:CF->List Cz->α->β->Prop}{r:R α}{Q:β->CC->Prop}(P:s6 c s B μ Rel r Q E)
  (hB:B.StaysIn B') (tJ:Pre μ th) (h':CF) (t':Nat):s6 c {s with heap:=h',toks:=t'} B' th Rel r Q E:=by
 cases r with
 |ok a H'=>exact λve uu tU u6 b x y I v=>P ve uu tU u6 b (λZ Z e=>x _ _ (hB _ _ e)) (tJ.trans y) I v
 |exc k H'=>exact λve uu tU u6 b x y I v=>P ve uu tU u6 b (λZ Z e=>x _ _ (hB _ _ e)) (tJ.trans y) I v
 |bad=>exact P
section
variable {c:tG}{Rel:CF->List Cz->α->β->Prop}{Q:β->CC->Prop}{d:R α}{a:AV}
theorem s6.oI{f:Int->R α}(P:s6 c s B μ Rel (aF d a f) Q E):(∃i,a=.int i/\s6 c s B μ Rel (f i) Q E)\/s6 c s B μ Rel d Q E:=kz (C:=λr=>s6 c s B μ Rel r Q E) P
theorem s6.pI{f:Int->R α}(P:s6 c s B μ Rel (aF .bad a f) Q E):∃i,a=.int i/\s6 c s B μ Rel (f i) Q E:=P.oI.resolve_right id
theorem s6.oY{f:List UInt8->R α}(P:s6 c s B μ Rel (bI d a f) Q E):(∃i,a=.bytes i/\s6 c s B μ Rel (f i) Q E)\/s6 c s B μ Rel d Q E:=mi (C:=λr=>s6 c s B μ Rel r Q E) P
theorem s6.pY{f:List UInt8->R α}(P:s6 c s B μ Rel (bI .bad a f) Q E):∃i,a=.bytes i/\s6 c s B μ Rel (f i) Q E:=P.oY.resolve_right id
theorem s6.oS{f:Str->R α}(P:s6 c s B μ Rel (eN d a f) Q E):(∃i,a=.str i/\s6 c s B μ Rel (f i) Q E)\/s6 c s B μ Rel d Q E:=ou (C:=λr=>s6 c s B μ Rel r Q E) P
theorem s6.pS{f:Str->R α}(P:s6 c s B μ Rel (eN .bad a f) Q E):∃i,a=.str i/\s6 c s B μ Rel (f i) Q E:=P.oS.resolve_right id
theorem s6.oB{f:Bool->R α}(P:s6 c s B μ Rel (bN d a f) Q E):(∃i,a=.bool i/\s6 c s B μ Rel (f i) Q E)\/s6 c s B μ Rel d Q E:=rS (C:=λr=>s6 c s B μ Rel r Q E) P
theorem s6.pB{f:Bool->R α}(P:s6 c s B μ Rel (bN .bad a f) Q E):∃i,a=.bool i/\s6 c s B μ Rel (f i) Q E:=P.oB.resolve_right id
theorem s6.oT{f:List AV->R α}(P:s6 c s B μ Rel (iu d a f) Q E):(∃i,a=.tup i/\s6 c s B μ Rel (f i) Q E)\/s6 c s B μ Rel d Q E:=adD (C:=λr=>s6 c s B μ Rel r Q E) P
theorem s6.oG{f:Nat->R α}(P:s6 c s B μ Rel (gV d a f) Q E):(∃i,a=.gd i/\s6 c s B μ Rel (f i) Q E)\/s6 c s B μ Rel d Q E:=rU (C:=λr=>s6 c s B μ Rel r Q E) P
theorem s6.pG{f:Nat->R α}(P:s6 c s B μ Rel (gV .bad a f) Q E):∃i,a=.gd i/\s6 c s B μ Rel (f i) Q E:=P.oG.resolve_right id
theorem s6.oF{f:List Int->R α}(P:s6 c s B μ Rel (ky d a f) Q E):(∃i,a=.tR i/\s6 c s B μ Rel (f i) Q E)\/s6 c s B μ Rel d Q E:=adB (C:=λr=>s6 c s B μ Rel r Q E) P
theorem s6.pF{f:List Int->R α}(P:s6 c s B μ Rel (ky .bad a f) Q E):∃i,a=.tR i/\s6 c s B μ Rel (f i) Q E:=P.oF.resolve_right id
theorem s6.oO{o:Option γ}{f:γ->R α}(P:s6 c s B μ Rel (aJ d o f) Q E):(∃i,o=some i/\s6 c s B μ Rel (f i) Q E)\/s6 c s B μ Rel d Q E:=rV (C:=λr=>s6 c s B μ Rel r Q E) P
theorem s6.pO{o:Option γ}{f:γ->R α}(P:s6 c s B μ Rel (aJ .bad o f) Q E):∃i,o=some i/\s6 c s B μ Rel (f i) Q E:=P.oO.resolve_right id
theorem s6.o0{r:R α}(P:s6 c s B μ Rel (ew d vs r) Q E):(vs=[]/\s6 c s B μ Rel r Q E)\/s6 c s B μ Rel d Q E:=rQ (C:=λr=>s6 c s B μ Rel r Q E) P
theorem s6.p0{r:R α}(P:s6 c s B μ Rel (ew .bad vs r) Q E):vs=[]/\s6 c s B μ Rel r Q E:=P.o0.resolve_right id
theorem s6.oC{f:AV->List AV->R α}(P:s6 c s B μ Rel (gj d vs f) Q E):(∃v r,vs=v::r/\s6 c s B μ Rel (f v r) Q E)\/s6 c s B μ Rel d Q E:=om (C:=λr=>s6 c s B μ Rel r Q E) P
theorem s6.pC{f:AV->List AV->R α}(P:s6 c s B μ Rel (gj .bad vs f) Q E):∃v r,vs=v::r/\s6 c s B μ Rel (f v r) Q E:=P.oC.resolve_right id
theorem s6.oQ{g:Prop}[Decidable g]{r:R α}(P:s6 c s B μ Rel (au d g r) Q E):(g/\s6 c s B μ Rel r Q E)\/s6 c s B μ Rel d Q E:=ot (C:=λr=>s6 c s B μ Rel r Q E) P
theorem s6.pQ{g:Prop}[Decidable g]{r:R α}(P:s6 c s B μ Rel (au .bad g r) Q E):g/\s6 c s B μ Rel r Q E:=P.oQ.resolve_right id
theorem s6.oL{f:Nat->List AV->R α}(P:s6 c s B μ Rel (bU d H a f) Q E):(∃p xs,a=.ref p/\az H p=some xs/\s6 c s B μ Rel (f p xs) Q E)\/s6 c s B μ Rel d Q E:=oo (C:=λr=>s6 c s B μ Rel r Q E) P
theorem s6.pL{f:Nat->List AV->R α}(P:s6 c s B μ Rel (bU .bad H a f) Q E):∃p xs,a=.ref p/\az H p=some xs/\s6 c s B μ Rel (f p xs) Q E:=P.oL.resolve_right id
theorem s6.oD{f:Nat->List (List UInt8×AV)->R α}(P:s6 c s B μ Rel (gU d H a f) Q E):(∃p es,a=.ref p/\du H p=some es/\s6 c s B μ Rel (f p es) Q E)\/s6 c s B μ Rel d Q E:=rT (C:=λr=>s6 c s B μ Rel r Q E) P
theorem s6.pD{f:Nat->List (List UInt8×AV)->R α}(P:s6 c s B μ Rel (gU .bad H a f) Q E):∃p es,a=.ref p/\du H p=some es/\s6 c s B μ Rel (f p es) Q E:=P.oD.resolve_right id
theorem s6.o1{f:AV->R α}(P:s6 c s B μ Rel (cF d vs f) Q E):(∃v,vs=[v]/\s6 c s B μ Rel (f v) Q E)\/s6 c s B μ Rel d Q E:=adz (C:=λr=>s6 c s B μ Rel r Q E) P
theorem s6.p1{f:AV->R α}(P:s6 c s B μ Rel (cF .bad vs f) Q E):∃v,vs=[v]/\s6 c s B μ Rel (f v) Q E:=P.o1.resolve_right id
theorem s6.o2{f:AV->AV->R α}(P:s6 c s B μ Rel (jF d vs f) Q E):(∃v w,vs=[v,w]/\s6 c s B μ Rel (f v w) Q E)\/s6 c s B μ Rel d Q E:=anR (C:=λr=>s6 c s B μ Rel r Q E) P
theorem s6.p2{f:AV->AV->R α}(P:s6 c s B μ Rel (jF .bad vs f) Q E):∃v w,vs=[v,w]/\s6 c s B μ Rel (f v w) Q E:=P.o2.resolve_right id
end
theorem s6.bind{c:tG}{Rel:CF->List Cz->α->β->Prop}{Rel₁:CF->List Cz->γ->δ->Prop}{r:R γ}{f:γ->AH->R α}{Q:β->CC->Prop}{Q₁:δ->CC->Prop}
  (P:s6 c s B μ Rel (r.bind f) Q E)
  (k:∀a H' B' th h' t' b,r=.ok a H'->B.StaysIn B'->Pre μ th->Inv c.prog c.w B' c.U th H' h'->Rel₁ B' th a b->s6 c {s with heap:=h',toks:=t'} B' th Rel (f a H') Q E->Q₁ b {s with heap:=h',toks:=t'}):
  s6 c s B μ Rel₁ r Q₁ E:=by
 cases r with
 |ok a H'=>exact λB' th h' t' b x y I v=>k a H' B' th h' t' b rfl x y I v (s6.shift P x y h' t')
 |exc k H'=>exact P
 |bad=>exact P
theorem s6.now{c:tG}{Rel:CF->List Cz->α->β->Prop}{a:α}{Q:β->CC->Prop}(P:s6 c s B μ Rel (.ok a H) Q E)
{t':Nat} {b:β} (I:Inv c.prog c.w B c.U μ H h') (v:Rel B μ a b):Q b {s with heap:=h',toks:=t'}:=P B μ h' t' b (λZ Z e=>e) (Pre.refl _) I v
end
theorem aij{t:Sem α}{Q:α->CC->Prop}(h:∀Q':α->CC->Prop,(∀a s,Q a s->Q' a s)->CB M A t Q' E s):CB M A t Q E s:=h Q λZ Z x=>x
theorem aik{t:Sem α}{Q:α->CC->Prop}(h:∀(A':Around)(Q':α->CC->Prop)(E':Cy->CC->Prop),(∀a s,Q a s->Q' a s)->CB M A' t Q' E' s):CB M A t Q E s:=h A Q E λZ Z x=>x
def NsO(o:Obj)(x:Str)(cv:Cy):Prop:=∃es ep,o.data=.dict es ep/\StrKeys es/\nsFind es x=some cv
def lq(env:Env)(U:tm)(x:Str)(cv:Cy):Prop:=
 (env.kindOf x=some .local/\∃o,U env.locals o/\NsO o x cv)\/
 ((env.kindOf x=some .cell\/env.kindOf x=some .free)/\∃a o,env.cells.lookup x=some a/\U a o/\o.data=.cell (some cv)/\a≠env.locals)
def FnV(env:Env)(B:CF)(cv:Cy):Prop:=∃f,cv=.ref f/\wU B f env.cells/\∀x,x=("width":Str)\/x=("height":Str)->env.kindOf x=some .cell
def v4(env:Env)(x:Str)(B:CF)(μ:List Cz)(v:AV)(cv:Cy):Prop:=match v with
 | .fn _=>FnV env B cv/\env.kindOf x=some .local
 |v=>VR B μ v cv
theorem v4.mono(h:v4 env x B μ v cv)(hB:B.StaysIn B')(tJ:Pre μ th):v4 env x B' th v cv:=by cases v<;>first |exact VR.mono hB tJ h |(obtain⟨⟨f,e,h1,h2⟩,h3⟩:=h;exact⟨(aI f e (h1.mono hB) h2),h3⟩)
def vV(env:Env)(vis:aN)(ρ:aB)(B:CF)(μ:List Cz)(U:tm):Prop:=∀i x v,(i,x)∈vis->ρ[i]?=some v->v≠.undef->∃cv,v4 env x B μ v cv/\lq env U x cv
theorem vV.mono(h:vV env vis ρ B μ U)(hB:B.StaysIn B')(tJ:Pre μ th):vV env vis ρ B' th U:=λi x v h1 h2 h3=>let⟨cv,a,b⟩:=h i x v h1 h2 h3;(ae cv (a.mono hB tJ) b)
def gA(A:Around)(U:tm)(fs:List Env):Prop:=A.frames=some fs/\∀env∈fs,env.scope.kind≠.module/\∃L o,env.frame=some L/\U L o/\¬Ex o
def Hnd(A:Around)(c:tG):Prop:=(c.Γ.hd=false/\A.handled=none)\/
 (c.Γ.hd=true/\(∀k vs H,c.Γ.C k vs H=R.bad)/\∃x o vs,A.handled=some (.ref x)/\c.U x o/\o.data=.fields vs/\vs[2]?=some .none)
structure ES(c:tG)(A:Around)(env:Env)(nk:aP)(n m:Nat):Prop where
 kind:env.scope.kind=.function
 glob:env.globals=Df
 blt:env.builtins=Ec
 Cm:∀x,nk.lookup x=some .globalImplicit->env.kindOf x=some .globalImplicit
 cls:∀x,nk.lookup x=some .cell\/nk.lookup x=some .free->∃a,env.cells.lookup x=some a/\(env.kindOf x=some .cell\/env.kindOf x=some .free)
 xH:gA A c.U c.fs
 deep:A.depth+n<480
 units:A.units+60*n+10*m+60<=9000
 uU:Hnd A c
structure uX(c:tG)(env:Env)(vis:aN)(ρ:aB)(B:CF)(μ:List Cz)(H:AH)(h:CF):Prop where
 inv:Inv c.prog c.w B c.U μ H h
 env:vV env vis ρ B μ c.U
 uv:uk c.prog c.w B
theorem uX.step{c:tG}(D:uX c env vis ρ B μ H h)(hB:B.StaysIn B')(tJ:Pre μ th)(I:Inv c.prog c.w B' c.U th H' h'):
  uX c env vis ρ B' th H' h':=⟨I,D.env.mono hB tJ,D.uv.mono hB⟩
def eS(c:tG)(n:Nat):Prop:=∀(A:Around)(k:Nat)(vs:List AV)(tf:List Cy)(B:CF)(μ:List Cz)(H:AH)(s:CC)(Q:Cy->CC->Prop)(E:Cy->CC->Prop),
 gA A c.U c.fs->A.depth+n<480->A.units+60*n<=8950->A.handled=none->Inv c.prog c.w B c.U μ H s.heap->uk c.prog c.w B->tD B μ vs tf->k<=40->k≠30->k≠31->
 s6 c s B μ VR (c.Γ.C k vs H) Q E->CB (CA c.prog c.w) A (call (.ref (bK k)) tf) Q E s
def aO(c:tG)(n:Nat)(vis:aN)(nk:aP)(pe:PE)(e:CD):Prop:=
 ∀(A:Around)(env:Env)(ρ:aB)(m:Nat)(B:CF)(μ:List Cz)(H:AH)(s:CC)(Q:Cy->CC->Prop)(E:Cy->CC->Prop),
  ES c A env nk n m->uX c env vis ρ B μ H s.heap->s6 c s B μ VR (ev c.Γ pe m ρ H) Q E->CB (CA c.prog c.w) A (eval e env) Q E s
def pr(c:tG)(n:Nat)(vis:aN)(nk:aP)(pes:ub)(es:List CD):Prop:=
 ∀(A:Around)(env:Env)(ρ:aB)(m:Nat)(B:CF)(μ:List Cz)(H:AH)(s:CC)(Q:List Cy->CC->Prop)(E:Cy->CC->Prop)(pos:Pos),
  ES c A env nk n m->uX c env vis ρ B μ H s.heap->s6 c s B μ tD (uc c.Γ pes m ρ H) Q E->CB (CA c.prog c.w) A (spliced (backTo pos (starEach es env))) Q E s
def jO(_:CF)(_:List Cz)(v:AV)(b:Bool):Prop:=v=.bool b
def ib(c:tG)(n:Nat)(vis:aN)(nk:aP)(pe:PE)(e:CD):Prop:=
 ∀(A:Around)(env:Env)(ρ:aB)(m:Nat)(B:CF)(μ:List Cz)(H:AH)(s:CC)(Q:Bool->CC->Prop)(E:Cy->CC->Prop),
  ES c A env nk n m->uX c env vis ρ B μ H s.heap->s6 c s B μ jO ((ev c.Γ pe m ρ H).bind λv H=>match v with | .bool b=>.ok (.bool b) H |_=>.bad) Q E->CB (CA c.prog c.w) A (isTrue e env (eval e env)) Q E s
section
variable {c:tG}{n:Nat}
theorem aoX{i:Int}:aO c n vis nk (.s7 i) (.Constant (.int i) q pos):=λA env ρ m B μ H s Q E S D P=>wpAny_Constant_int (P.now D.inv (.int ..))
theorem adX{i:Str}:aO c n vis nk (.tH i) (.Constant (.str i) q pos):=λA env ρ m B μ H s Q E S D P=>by show CB _ _ (mkText i) _ _ _;exact wpAny_mkText (P.now D.inv (.str ..))
theorem aoW{i:List UInt8}(hi:i.length<=al):aO c n vis nk (.s9 i) (.Constant (.bytes i) q pos):=λA env ρ m B μ H s Q E S D P=>Constant_bytes (P.now D.inv (.bytes _ _ hi))
theorem aoV{i:Bool}:aO c n vis nk (.ug i) (.Constant (.bool i) q pos):=λA env ρ m B μ H s Q E S D P=>wpAny_pure (P.now D.inv (.bool ..))
theorem aj8{w:CQ}(I:Inv prog w B U μ H h){a:Cz}{o:Obj}(hu:U a o)(hn:NsO o x cv):∃m,h.Ns a m/\m x=some cv:=by refine o_aaea (I.us a o hu) λZ Z sl e Z=>?_;obtain⟨es,ep,hd,hk,hf⟩:=hn;exact(ae (nsFind es) (ce _ es ep e hd hk (λZ=>rfl)) hf)
theorem aa2{w:CQ}(I:Inv prog w B U μ H h){a:Cz}{o:Obj}{cv:Option Cy}(hu:U a o)(hn:o.data=.cell cv):h.IsCell a cv:=by refine o_aaea (I.us a o hu) λZ Z sl e Z=>?_;exact(ae _ e hn)
theorem acx{w:CQ}{Q:Cy->CC->Prop}
  (I:Inv prog w B U μ H s.heap) (hk:env.scope.kind=.function) (hv:lq env U x cv) (hx:x≠"__classdict__") (h:Q cv s):CB M A (loadName env x) Q E s:=by
 rcases hv with⟨hl,o,hu,hn⟩ |⟨hl,a,o,ha,hu,hn,_⟩
 ·obtain⟨m,h1,h2⟩:=aj8 I hu hn;exact Gh hk hl h1 h2 h
 ·rcases hl with hl |hl
  ·exact wpAny_loadName_cell hk hl ha (aa2 I hu hn) h
  ·exact wpAny_loadName_free hk hl ha (aa2 I hu hn) h (by simpa using hx)
end
section
variable {c:tG}
theorem ahX{p:Nat}{xs:List AV}(h:az H p=some xs):H[p]?=some (.list xs):=by
 delta az at h
 cases q:H[p]? with
 |none=>rw[q] at h;cases h
 |some o=>rw[q] at h;cases o<;>cases h;rfl
theorem Inv.list{w:CQ}(I:Inv prog w B U μ H h){p:Nat}{a:Cz}{xs:List AV}(hp:μ[p]?=some a)(hl:az H p=some xs):
  ∃tf n,h.get? a=some {cls:=.type "list",data:=.seq (Da tf) n}/\tD B μ xs tf/\xs.length<=al:=by
 (obtain⟨ob,h1,zq2,_⟩:=I.objs p a _ hp (ahX hl);obtain⟨tf,n,rfl,h3,h4⟩:=zq2);exact(ax tf n h1 h3 h4)
theorem dN:al=16777216:=rfl
theorem fF:sizeLine=16777216:=by decide
theorem acW{w:CQ}(I:Inv prog w B U μ H h){xs:List AV}{n:Nat}(hv:tD B μ xs tf)(hl:xs.length<=al):
  Inv prog w B U (μ++[h.objs.size]) (H++[.list xs]) (h.push {cls:=.type "list",data:=.seq (Da tf) n}):=
 I.alloc (DA _ rfl) (ax tf n rfl hv hl) (λ⟨vs,q⟩=>by cases q)
theorem kt{a:Cz}(h:μ.length=H.length):(μ++[a])[H.length]?=some a:=by rw[<-h,FU (Nat.le_refl _),FH];rfl
theorem pH{xs:List AV}(I:Inv c.prog c.w B c.U μ H s.heap)(hv:tD B μ xs tf)(P:s6 c s B μ VR (cn xs H) Q E)(t:Nat)(n:Nat):
  xs.length<=al/\Q (.ref s.heap.objs.size) {s with heap:=s.heap.push {cls:=.type "list",data:=.seq (Da tf) n},toks:=t}:=by
 unfold cn at P
 split at P
 ·rename_i hl
  exact⟨hl,P B _ _ t _ (λZ Z e=>e) (Pre.snoc _ _) (acW I hv hl) (.ref _ _ (kt I.len))⟩
 ·exact P.elim
theorem qQ{b:Int}(h:b.natAbs<cI):Go b<=64:=by
 unfold Go
 split
 ·exact DY 64
 ·rename_i hb
  have wY:b.natAbs≠0:=λq=>hb (by rw[C9];exact Int.natAbs_eq_zero.mp q);have:=(LF (k:=64) wY).mpr h;exact Ju this
theorem afW{a n:Int}(h:a.natAbs<cI)(h0:0<=n)(hn:n<=1000):(Go a:Int)*n<=2^27:=by have h1:=qQ h;have h2:(Go a:Int)*n<=64*n:=Int.mul_le_mul_of_nonneg_right (FA rfl rfl h1) h0;omega
theorem acI:tf.toArray.size=tf.length:=by simp
theorem aov(xs:List α):∀n:Nat,(GZ (λx1 x2=>x1++x2) (#[]:Array α) (CK n xs.toArray))=((CK n xs).flatten).toArray:=by
 have key:∀(n:Nat)(acc:List α),GZ (λx1 x2=>x1++x2) acc.toArray (CK n xs.toArray)=(acc++(CK n xs).flatten).toArray:=by
  intro n
  induction n with
  |zero=>intro acc;simp
  |succ n ih=>intro acc;rw[Ih,EK,Ih,HY,<-List.append_assoc,<-ih];simp
 intro n;have:=key n []
 simpa using this
theorem tD.rep{xs:List AV}(h:tD B μ xs tf):∀n:Nat,tD B μ (CK n xs).flatten (CK n tf).flatten
 |0=>.nil
 |n+1=>by rw[Ih,Ih,HY,HY];exact h.append (h.rep n)
theorem s6.arK{b:List UInt8}(P:s6 c s B μ VR (jB b H) Q E):b.length<=al/\s6 c s B μ VR (.ok (.bytes b) H:R AV) Q E:=s6.pQ P
theorem ajL{l:Cz}{items:Array Cy}{x:Int}
  (hl:s.heap.get? l=some {cls:=.type "list",dict:=none,data:=.seq items k,slots:=#[]})
  (BX: -(2^63:Int)<=x) (hhi:x<2^63) (t6:items.size*x.toNat<=2^24)
  (h:Q (.ref s.heap.objs.size) {s with heap:=s.heap.push {cls:=.type "list",data:=.seq (GZ (λx1 x2=>x1++x2) #[] (CK (if items.isEmpty=true then 0 else x.toNat) items))}}):
  CB (CA c.prog c.w) A (binaryOp .Mult (.ref l) (.int x u)) Q E s:=
 wpAny_binaryOp_repeat_ref (by decide) (ae _ hl rfl) (λs'=>typeIs_int s' x u) noFill_list_mul F.fills_int_mul Kh repeat_list F.slot_int_index.lookup
  (Hy Kh (typeIs_int s x u) F.entry_int_rmul (F.args_int_rmul_2 _ _) (int___rmul___int_list x u l items k)
   (bY hl rfl (ae _ hl rfl) (Hy F.slot_list_mul (ae _ hl rfl) F.entry_list_mul (F.args_list_mul_2 _ _)
    (AutoListH.list___mul___list_int_3 l items k x u (by simp[M4];omega) (by omega) (by simp[M7,sizeLine];omega))
    ⟨hl,h⟩)))
section
variable {x:AV}
theorem aoK(I:Inv c.prog c.w B c.U μ H s.heap)(vx:VR B μ x cx)(vy:VR B μ y cy)(P:s6 c s B μ VR (aeM x y H) Q E):CB (CA c.prog c.w) A (binaryOp .Add cx cy) Q E s:=by
 replace P:=s6.oI P;rcases P with⟨x,rfl,P⟩ |P
 ·obtain⟨_,rfl⟩:=vx.i;replace P:=P.pI;obtain⟨y,rfl,P⟩:=P;obtain⟨_,rfl⟩:=vy.i;exact add_int (P.now I (.int ..))
 replace P:=P.oY;rcases P with⟨x,rfl,P⟩ |P
 ·(obtain⟨t,zq1,hx⟩:=(vx.y);clear vx;subst zq1);replace P:=P.pY;obtain⟨y,rfl,P⟩:=P;(obtain⟨u,zq1,hy⟩:=(vy.y);clear vy;subst zq1);obtain⟨hl,P⟩:=P.arK;exact bytes_add_K (by rw[De,De,<-List.length_append];exact hl) rfl λt' k=>P.now I (.bytes _ _ hl)
 replace P:=P.pL;obtain⟨p,xs,rfl,hx,P⟩:=P;(obtain⟨a,zq1,ha⟩:=(vx.r);clear vx;subst zq1);replace P:=P.pL;obtain⟨q,ys,rfl,hy,P⟩:=P;(obtain⟨b,zq1,hb⟩:=(vy.r);clear vy;subst zq1);obtain⟨cx,n,h1,h2,_⟩:=I.list ha hx;obtain⟨cy,m,h3,h4,_⟩:=I.list hb hy;have z:=pH I (h2.append h4) P s.toks 0;refine PySem.P.add_list h1 h3 (by simpa using z.2) ?_;have:=z.1;rw[<-(h2.append h4).length,dN] at this;rw[acI,acI,fF,<-List.length_append];exact this
theorem api(I:Inv c.prog c.w B c.U μ H s.heap)(vx:VR B μ x cx)(vy:VR B μ y cy)(P:s6 c s B μ VR (aeP x y H) Q E):CB (CA c.prog c.w) A (binaryOp .Sub cx cy) Q E s:=by replace P:=s6.pI P;obtain⟨x,rfl,P⟩:=P;obtain⟨_,rfl⟩:=vx.i;replace P:=P.pI;obtain⟨y,rfl,P⟩:=P;obtain⟨_,rfl⟩:=vy.i;exact sub_int (P.now I (.int ..))
theorem apa(I:Inv c.prog c.w B c.U μ H s.heap)(vx:VR B μ x cx)(vy:VR B μ y cy)(P:s6 c s B μ VR (aeO x y H) Q E):CB (CA c.prog c.w) A (binaryOp .Mult cx cy) Q E s:=by
 replace P:=s6.pI P;obtain⟨y,rfl,P⟩:=P;obtain⟨_,rfl⟩:=vy.i;replace P:=P.oI;rcases P with⟨x,rfl,P⟩ |P
 ·obtain⟨_,rfl⟩:=vx.i;obtain⟨hb,P⟩:=P.pQ;exact mul_int (P.now I (.int ..)) (hb.elim (λhb=>IntMulOk.of_left (qQ hb)) λhb=>IntMulOk.of_right (qQ hb))
 replace P:=P.oY;rcases P with⟨x,rfl,P⟩ |P
 ·(obtain⟨t,zq1,hx⟩:=(vx.y);clear vx;subst zq1);obtain⟨⟨h1,h2,h3,h4⟩,P⟩:=P.pQ;refine bytes_mul_K (List.ne_nil_of_length_pos h1) h3 (DZ (EJ h4) (by decide)) h2 rfl λt' k=>P.now I (.bytes _ _ ?_);rw[show(CK y.toNat x).flatten.length=y.toNat*x.length from by simp,Jr];exact h2
 replace P:=P.pL;obtain⟨p,xs,rfl,hx,P⟩:=P;(obtain⟨a,zq1,ha⟩:=(vx.r);clear vx;subst zq1);obtain⟨⟨h1,h2,h3⟩,P⟩:=P.pQ;obtain⟨cx,n,g1,g2,_⟩:=I.list ha hx;have z:=pH I (g2.rep y.toNat) P s.toks 0;rw[<-g2.length] at h3;refine ajL g1 (by omega) (by omega) ?_ ?_
 ·rw[De];exact Nat.le_trans (Er (CN h3) (KB.mpr (EJ h2))) (by decide)
 ·by_cases he:cx=[]
  ·clear h3 g1 g2;subst he
   simpa using z.2
  ·rw[CJ (by simpa using he),aov];exact z.2
theorem o7{g:Int->Int->Prop}[∀x y,Decidable (g x y)]{f:Int->Int->Int}{o:Operator}(I:Inv c.prog c.w B c.U μ H s.heap)(vx:VR B μ x cx)(vy:VR B μ y cy)
  (P:s6 c s B μ VR (aF .bad x λx=>aF .bad y λy=>au .bad (g x y) (.ok (.int (f x y)) H)) Q E) (k:∀{x y:Int}{t u:Tok},g x y->Q (.int (f x y) s.toks) {s with toks:=s.toks+1}->CB (CA c.prog c.w) A (binaryOp o (.int x t) (.int y u)) Q E s):
  CB (CA c.prog c.w) A (binaryOp o cx cy) Q E s:=by
 replace P:=P.pI;obtain⟨x,rfl,P⟩:=P;obtain⟨_,rfl⟩:=vx.i;replace P:=P.pI;obtain⟨y,rfl,P⟩:=P;obtain⟨_,rfl⟩:=vy.i;obtain⟨hb,P⟩:=P.pQ;exact k hb (P.now I (.int ..))
theorem adW{o:zk}(I:Inv c.prog c.w B c.U μ H s.heap)(vx:VR B μ x cx)(vy:VR B μ y cy)(P:s6 c s B μ VR (dc o x y H) Q E):
  CB (CA c.prog c.w) A (binaryOp (ml o) cx cy) Q E s:=by
 cases o with
 |add=>exact aoK I vx vy P
 |sub=>exact api I vx vy P
 |mul=>exact apa I vx vy P
 |fdiv=>exact o7 I vx vy P λhb h=>floordiv_int (HQ hb.1) h (.inl (L2 (C2.mp (IQ (HP (Kw (EJ hb.1))) hb.2))))
 |mod=>exact o7 I vx vy P λhb h=>mod_int' (HQ hb.1) h
 |pow=>exact o7 I vx vy P λhb h=>pow_int hb.1 (afW hb.2.2 hb.1 hb.2.1) h
 |shl=>exact o7 I vx vy P λhb h=>lshift_int_small hb.1 (DZ hb.2.1 (by decide)) hb.2.2 h
end
end
section
open PySem PySem.W PySem.Calls PyProof.Rows PySem.SeqAt
section
variable {c:tG}
theorem abN{f:AV->AV->Option Bool}{x:AV}{xs ys:List AV}{b:Bool}(h:fe f (x::xs) ys=some b):∃y Cx a b',ys=y::Cx/\f x y=some a/\fe f xs Cx=some b'/\b=(a&&b'):=by obtain⟨y,ys,rfl,h⟩:=uf.pC h;obtain⟨a,h1,h⟩:=FK.mp h;(obtain⟨b',h2,zq2⟩:=Ek.mp h;clear h;subst zq2);exact(ef y ys a b' rfl h1 (bE h2 rfl))
theorem ahl{f:AV->AV->Option Bool}:∀{xs ys:List AV}{b:Bool},fe f xs ys=some b->∃e:Nat->Bool,(∀j (x y:AV),xs[j]?=some x->ys[j]?=some y->f x y=some (e j))/\b=(CL xs.length).all e:=by
 intro zi
 induction zi with
 |nil=>
 exact @λys b h=>by obtain⟨rfl,h⟩:=uf.p0 h;cases h;exact(ae (λZ=>true) (λj x y q=>by simp at q) rfl)
 |cons x xs ih=>
 exact @λys b h=>by
  (refine o_eeeeaa (abN h) λy ys a b' zq4 h1=>r_a λh2 zq7=>?_;subst zq4;clear h;subst zq7);obtain⟨e,g1,g2⟩:=ih h2;refine(ae (λj=>Nat.casesOn j a e) (λj x' y' q r=>?_) ?_)
  ·cases j with
   |zero=>cases q;cases r;exact h1
   |succ j=>exact g1 j x' y' q r
  ·rw[g2,Dc,Ld,HT,IV];rfl
theorem ahm{f:AV->AV->Option Bool}(hf:∀x b,f x x=some b->b=true):∀(xs:List AV){b:Bool},fe f xs xs=some b->b=true:=by
 intro zi
 induction zi with
 |nil=>
 exact @λb h=>by cases h;rfl
 |cons x xs ih=>
 exact @λb h=>by(refine o_eeeeaa (abN h) λy ys a b' e h1=>r_a λh2 zq7=>?_;clear h;subst zq7);cases e;rw[hf x a h1,ih h2];rfl
theorem qI{x:AV}{r:Bool}(h:il x y=some r):(∃i j,x=.int i/\y=.int j/\r=(i==j))\/(∃i j,x=.bytes i/\y=.bytes j/\r=(i==j))\/(∃i j,x=.str i/\y=.str j/\r=(i==j))\/
  (∃i j,x=.bool i/\y=.bool j/\r=(i==j))\/∃j,x=.none/\y=.str j/\r=false:=by
 rcases uf.oI h with⟨i,e,h⟩ |h
 ·obtain⟨j,e2,h⟩:=uf.pI h;exact .inl (ax i j e e2 ((C0 h).symm))
 rcases uf.oY h with⟨i,e,h⟩ |h
 ·obtain⟨j,e2,h⟩:=uf.pY h;exact .inr (.inl (ax i j e e2 ((C0 h).symm)))
 rcases uf.oS h with⟨i,e,h⟩ |h
 ·obtain⟨j,e2,h⟩:=uf.pS h;exact .inr (.inr (.inl (ax i j e e2 ((C0 h).symm))))
 rcases uf.oB h with⟨i,e,h⟩ |h
 ·obtain⟨j,e2,h⟩:=uf.pB h;exact .inr (.inr (.inr (.inl (ax i j e e2 ((C0 h).symm)))))
 obtain⟨e,h⟩:=uf.pN h;obtain⟨j,e2,h⟩:=uf.pS h;exact .inr (.inr (.inr (.inr (aI j e e2 ((C0 h).symm)))))
theorem qJ{n:Nat}{x:AV}{r:Bool}(h:de H n x y=some r):il x y=some r\/∃m p q xs ys,n=m+1/\x=.ref p/\y=.ref q/\az H p=some xs/\az H q=some ys/\(if xs.length=ys.length then fe (de H m) xs ys else some false)=some r:=by
 cases n with
 |zero=>exact .inl h
 |succ m=>
  rcases uf.oL h with⟨p,xs,e,h1,h⟩ |h
  ·obtain⟨q,ys,e2,h2,h⟩:=uf.pL h;exact .inr (iQ m p q xs ys rfl (gM e e2 h1 h2 h))
  ·exact .inl h
theorem abM{x:AV}{b:Bool}(h:il x x=some b):b=true:=by rcases qI h with⟨i,j,rfl,e,rfl⟩ |⟨i,j,rfl,e,rfl⟩ |⟨i,j,rfl,e,rfl⟩ |⟨i,j,rfl,e,rfl⟩ |⟨j,rfl,e,rfl⟩<;>cases e<;>exact Du _
theorem ahp:∀(n:Nat)(x:AV)(b:Bool),de H n x x=some b->b=true:=by
 intro zi
 induction zi with
 |zero=>
 exact @λx b h=>abM h
 |succ n ih=>
 exact @λx b h=>by
  rcases qJ h with h |⟨m,p,q,xs,ys,e,rfl,e2,h1,h2,h⟩
  ·exact abM h
  ·cases e2;rw[h1] at h2;cases h2;cases e;rw[CG rfl] at h;exact ahm (ih) _ h
theorem gP{a:Cz}{n:Nat}(e:h.get? a=some {cls:=.type "list",data:=.seq (Da tf) n}):h.IsList a tf.toArray:=(lU _ e rfl n rfl)
theorem abP(I:Inv c.prog c.w B c.U μ H s.heap){n:Nat}{p:Nat}{a b:Cz}{xs ys:List AV}{r:Bool}(ha:μ[p]?=some a)(hb:μ[q]?=some b)(h1:az H p=some xs)(h2:az H q=some ys)(h:(if xs.length=ys.length then fe (de H n) xs ys else some false)=some r)
  (ih:∀(A:Around)(x y:AV)(cx cy:Cy)(r:Bool),VR B μ x cx->VR B μ y cy->de H n x y=some r->A.units+n+2<=9800->EqAt A s cx cy r) (hu:A.units+(n+1)+2<=9800):
  RcAt A s (.ref a) (.ref b) r/\RcNeAt A s (.ref a) (.ref b) (!r):=by
 have hc:A.units<cLine:=by unfold cLine;exact amh hu
 obtain⟨cx,n1,g1,g2,_⟩:=I.list ha h1;obtain⟨cy,n2,g3,g4,_⟩:=I.list hb h2;have l1:=g2.length;have l2:=g4.length
 split at h
 ·rename_i hl
  obtain⟨e,k1,k2⟩:=ahl h;have he:∀(j:Nat)(h1:j<cx.toArray.size)(h2:j<cy.toArray.size),EqAt A.in1 s cx.toArray[j] cy.toArray[j] (e j):=by intro j j1 j2;have j1':j<cx.length:=j1;have j2':j<cy.length:=j2;have hx:xs[j]?=some xs[j]:=List.getElem?_eq_getElem (l1▸j1');have hy:ys[j]?=some ys[j]:=List.getElem?_eq_getElem (l2▸j2');obtain⟨cx',m1,m2⟩:=g2.get hx;obtain⟨cy',m3,m4⟩:=g4.get hy;rw[List.getElem?_eq_getElem j1'] at m1;rw[List.getElem?_eq_getElem j2'] at m3;cases m1;cases m3;exact ih A.in1 _ _ _ _ _ m2 m4 (k1 j _ _ hx hy) (by rw[Around.in1_units];exact ami hu)
  have t6:cx.toArray.size=cy.toArray.size:=l1.trans (hl.trans l2.symm);have er:(CL cx.toArray.size).all e=r:=by rw[k2,<-l1];rfl
  exact⟨er▸RcAt.lists (gP g1) (gP g3) t6 hc he,er▸RcNeAt.lists (gP g1) (gP g3) t6 hc he⟩
 ·rename_i hl
  cases h;have t6:(cx.toArray.size !=cy.toArray.size)=true:=by simpa[l1,l2] using hl
  exact⟨RcAt.lists_lengths (gP g1) (gP g3) t6 hc,RcNeAt.lists_lengths (gP g1) (gP g3) t6 hc⟩
theorem eqB{b c:List UInt8}:EqAt A s (.bytes b.toArray t) (.bytes c.toArray u) (b==c):=λprog w E Q hq=>eqBool_bytes (by
 have:decide (b.toArray.toList=c.toArray.toList)=(b==c):=by rw[HH];simp
 rw[this];exact hq)
theorem lN{x:AV}{r:Bool}(vx:VR B μ x cx)(vy:VR B μ y cy)(h:il x y=some r):EqAt A s cx cy r:=by
 rcases qI h with⟨i,j,rfl,rfl,rfl⟩ |⟨i,j,rfl,rfl,rfl⟩ |⟨i,j,rfl,rfl,rfl⟩ |⟨i,j,rfl,rfl,rfl⟩ |⟨j,rfl,rfl,rfl⟩
 ·obtain⟨_,rfl⟩:=vx.i;obtain⟨_,rfl⟩:=vy.i;exact EqAt.int_int _ _ _ _
 ·(obtain⟨_,zq1,_⟩:=(vx.y);clear vx;subst zq1);(obtain⟨_,zq1,_⟩:=(vy.y);clear vy;subst zq1);exact eqB
 ·obtain⟨_,rfl⟩:=vx.s;obtain⟨_,rfl⟩:=vy.s;exact EqAt.str_str _ _ _ _
 ·rw[vx.b,vy.b];exact EqAt.bool_bool _ _
 ·rw[vx.n];obtain⟨_,rfl⟩:=vy.s;exact EqAt.none_str _ _
theorem ahj{x:AV}{r:Bool}(vx:VR B μ x cx)(vy:VR B μ y cy)(h:il x y=some r):(Q (.bool r) s->CB (CA c.prog c.w) A (compareOp .Eq cx cy) Q E s)/\(Q (.bool (!r)) s->CB (CA c.prog c.w) A (compareOp .NotEq cx cy) Q E s):=by
 rcases qI h with⟨i,j,rfl,rfl,rfl⟩ |⟨i,j,rfl,rfl,rfl⟩ |⟨i,j,rfl,rfl,rfl⟩ |⟨i,j,rfl,rfl,rfl⟩ |⟨j,rfl,rfl,rfl⟩
 ·obtain⟨_,rfl⟩:=vx.i;obtain⟨_,rfl⟩:=vy.i;exact⟨λhq=>eq_int hq,λhq=>ne_int (by simpa[bne] using hq)⟩
 ·(obtain⟨_,zq1,_⟩:=(vx.y);clear vx;subst zq1);(obtain⟨_,zq1,_⟩:=(vy.y);clear vy;subst zq1);exact⟨λhq=>eq_bytes (by simpa using hq),λhq=>ne_bytes (by simpa[bne] using hq)⟩
 ·obtain⟨_,rfl⟩:=vx.s;obtain⟨_,rfl⟩:=vy.s;exact⟨λhq=>RcAt.str_str _ _ _ _ _ _ _ _ hq,λhq=>RcNeAt.str_str _ _ _ _ _ _ _ _ hq⟩
 ·rw[vx.b,vy.b];exact⟨λhq=>RcAt.bool_bool _ _ _ _ _ _ hq,λhq=>RcNeAt.bool_bool _ _ _ _ _ _ hq⟩
 ·rw[vx.n];obtain⟨_,rfl⟩:=vy.s;exact⟨λhq=>EqNone.eq_none_str hq,λhq=>EqNone.ne_none_str hq⟩
theorem ahk(I:Inv c.prog c.w B c.U μ H s.heap):∀(n:Nat)(A:Around)(x y:AV)(cx cy:Cy)(r:Bool),VR B μ x cx->VR B μ y cy->de H n x y=some r->A.units+n+2<=9800->EqAt A s cx cy r:=by
 intro n
 induction n with
 |zero=>exact λA x y cx cy r vx vy h hu=>lN vx vy h
 |succ n ih=>
  intro A x y cx cy r vx vy h hu;rcases qJ h with h1 |⟨m,p,q,xs,ys,e,rfl,rfl,h1,h2,h3⟩
  ·exact lN vx vy h1
  ·cases e;(obtain⟨a,zq1,ha⟩:=(vx.r);clear vx;subst zq1);obtain⟨b,rfl,hb⟩:=(vy.r)
   by_cases ye:a=b
   ·subst ye;have hpq:p=q:=(K0 I.nodup).mp ((List.getElem?_eq_some_iff.mp ha).2.trans (List.getElem?_eq_some_iff.mp hb).2.symm);clear h2 hb vy;subst hpq;rw[ahp _ _ _ h];exact EqAt.same _
   ·exact EqAt.of_refs ye (abP I ha hb h1 h2 h3 ih hu).1
theorem adY(I:Inv c.prog c.w B c.U μ H s.heap){x:AV}{r:Bool}(vx:VR B μ x cx)(vy:VR B μ y cy)(h:de H 4 x y=some r)(hu:A.units+10<=9800):
  (Q (.bool r) s->CB (CA c.prog c.w) A (compareOp .Eq cx cy) Q E s)/\(Q (.bool (!r)) s->CB (CA c.prog c.w) A (compareOp .NotEq cx cy) Q E s):=by
 rcases qJ h with h1 |⟨m,p,q,xs,ys,e,rfl,rfl,h1,h2,h3⟩
 ·exact ahj vx vy h1
 ·(obtain⟨a,zq1,ha⟩:=(vx.r);clear vx;subst zq1);(obtain⟨b,zq1,hb⟩:=(vy.r);clear vy;subst zq1);cases e;obtain⟨h1,h2⟩:=abP I ha hb h1 h2 h3 (ahk I 3) (amj hu);exact⟨λhq=>h1 _ _ _ _ hq,λhq=>h2 _ _ _ _ hq⟩
end
end
section
open PySem PySem.W PySem.Calls PyProof.Rows PySem.SeqAt
theorem ab7{b:List UInt8}{x:Int}(h0:0<=x)(h1:x<256):Gives (Builtin.«bytes.__contains__» ⟨[.bytes b.toArray t,.int x u],[]⟩) (.val (.bool (b.any λc=>(c.toNat:Int)==x))):=by
 refine .of_wp λM A E s Q hq=>?_
 show CB M A (J8 "bytes.__contains__" (.bytes b.toArray t) (.int x u)>>=λr=>_) _ E s
 unfold J8;refine wpAny_bind (wpAny_bind (JP (C4 (a:=x) (by rfl) ?_)));refine wpAny_bind (C4 KBy.buffer_eq ?_);show CB M A (if(decide (x<0)||decide (x>=256))=true then _ else _) _ E s
 rw[CJ (by simp;exact⟨h0,h1⟩)];have e:b.toArray.contains x.toNat.toUInt8=(b.any λc=>(c.toNat:Int)==x):=by
  rw[HH];simp only[List.contains_toArray,HV,IX,C9];constructor
  ·intro hm;refine(ae _ hm ?_);simp only[LX,GK];exact(CH Int.ofNat (Hj ((GT h0).mpr h1))).trans (GU h0)
  ·intro y0;obtain⟨c,hc,e⟩:=y0;have:x.toNat.toUInt8=c:=by
    apply JE.mp;simp only[LX,GK];clear h0 hq;subst e;exact Hj (C2.mp h1)
   rw[this];exact hc
 rw[e];exact wpAny_pure (wpAny_pure (ae _ rfl hq))
theorem nJ{w:CQ}(k:Int)(t:Tok):(intKind prog w).is k (.int k t)=true:=by simp[intKind,Mt]
theorem lV{w:CQ}(k:List UInt8)(t:Tok):(bytesKind prog w).is k (.bytes k.toArray t)=true:=by simp[bytesKind,PySem.W.isBytes]
theorem sJ{K:Type}[DecidableEq K][BEq K][LawfulBEq K]{es:List (K×AV)}{kvs:List (K×Cy)}{k:K}(h1:kvs.map (·.1)=es.map (·.1))(h2:tD B μ (es.map (·.2)) (kvs.map (·.2)))
  (h:(es.find? λe=>e.1==k).map (·.2)=some v):∃cv,valueAt kvs k=some cv/\VR B μ v cv:=by
 induction es generalizing kvs with
 |nil=>cases h
 |cons p es ih=>
  obtain⟨a,x⟩:=p
  cases kvs with
  |nil=>cases h1
  |cons q kvs=>
  obtain⟨b,y⟩:=q;simp only[DS,IY] at h1;obtain⟨rfl,h1⟩:=h1;obtain⟨_,_,e,h3,h4⟩:=h2.c;cases e;unfold valueAt;rw[Jd] at h⊢
  by_cases hk:b=k
  ·simp only[hk,Du,L1,Nf,decide_true] at h⊢;clear ih;subst h;exact(ae y rfl h3)
  ·simp only[EF.mpr hk,hk,decide_false] at h⊢;exact ih h1 h4 h
theorem my{K:Type}[DecidableEq K][BEq K][LawfulBEq K]:∀{es:List (K×AV)}{kvs:List (K×Cy)}{k:K},kvs.map (·.1)=es.map (·.1)->(valueAt kvs k).isSome=es.any λe=>e.1==k
 |[],[],k,_=>rfl
 |[],_::_,k,h1=>by simp at h1
 |(a,x)::es,[],k,h1=>by simp at h1
 |(a,x)::es,(b,y)::kvs,k,h1=>by
  simp only[DS,IY] at h1;obtain⟨rfl,h1⟩:=h1;have ih:=my (es:=es) (kvs:=kvs) (k:=k) h1;unfold valueAt at ih⊢;rw[Jd,IW]
  by_cases hk:b=k
  ·simp[hk]
  ·simp only[EF.mpr hk,hk,decide_false,Gl];exact ih
theorem aqg{K:Type}[DecidableEq K][BEq K][LawfulBEq K]{es:List (K×AV)}{kvs:List (K×Cy)}{k:K}(h1:kvs.map (·.1)=es.map (·.1))(h:(es.find? λe=>e.1==k)=none):valueAt kvs k=none:=by
 have:=my (k:=k) h1
 cases q:valueAt kvs k with
 |none=>rfl
 |some v=>rw[q] at this;simp only[Option.isSome_some] at this;have h':=List.find?_eq_none.mp h;obtain⟨e,he,hk⟩:=IX.mp this.symm;exact CI hk (h' e he)
section
variable {c:tG}
def jr(y:AV)(z:Cy):Bool:=aF (bI (bN false y λb=>match z with
  | .bool a=>a==b
  |_=>false) y λb=>match z with
  | .bytes a _=>a==b.toArray
  |_=>false) y λn=>match z with
  | .int m _=>m==n
  |_=>false
theorem ahF{x:AV}{z:Cy}{r:Bool}(vx:VR B μ x z)(vy:VR B μ y cy)(h:gI x y=some r):jr y z=r/\EqAt A s z cy r:=by
 replace h:=uf.oI h;rcases h with⟨i,rfl,h⟩ |h
 ·replace h:=uf.pI h;obtain⟨j,rfl,h⟩:=h;cases h;exact⟨by obtain⟨_,rfl⟩:=vx.i;rfl,lN vx vy rfl⟩
 replace h:=uf.oY h;rcases h with⟨i,rfl,h⟩ |h
 ·replace h:=uf.pY h;obtain⟨j,rfl,h⟩:=h;cases h;exact⟨by(obtain⟨_,zq1,_⟩:=(vx.y);clear vx;subst zq1);show(i.toArray==j.toArray)=(i==j);rw[HH];simp,lN vx vy rfl⟩
 replace h:=uf.pB h;obtain⟨i,rfl,h⟩:=h;replace h:=uf.pB h;obtain⟨j,rfl,h⟩:=h;cases h;exact⟨by rw[vx.b];rfl,lN vx vy rfl⟩
theorem ad5(vy:VR B μ y cy):∀{xs:List AV}{tf:List Cy}{r:Bool},tD B μ xs tf->gO (λx=>gI x y) xs=some r->(∀z∈tf,EqAt A s z cy (jr y z))/\tf.any (jr y)=r:=by
 intro zi
 induction zi with
 |nil=>
 exact @λZ r hv h=>by rw[hv.n];cases h;exact⟨λz hz=>(nomatch hz),rfl⟩
 |cons x xs ih=>
 exact @λZ r hv h=>by
  obtain⟨_,_,rfl,vx,hv⟩:=hv.c;obtain⟨a,h1,h⟩:=FK.mp h;obtain⟨b,h2,rfl⟩:=Ek.mp h;obtain⟨e1,e2⟩:=ahF (A:=A) (s:=s) vx vy h1;obtain⟨g1,g2⟩:=ih hv h2;refine⟨λz hz=>?_,by rw[IW,e1,g2]⟩;rcases CR.mp hz with rfl |hz
  ·rw[e1];exact e2
  ·exact g1 z hz
theorem jz{a:Cz}(e:h.get? a=some {cls:=.type "tuple",data:=.seq (Da tf)}):h.IsTuple a tf.toArray:=(lU _ e rfl 0 rfl)
theorem Inv.dict{w:CQ}(I:Inv prog w B U μ H h){p:Nat}{a:Cz}{es:List (List UInt8×AV)}(hp:μ[p]?=some a)(hl:du H p=some es):
  ∃kvs,h.DictOf (bytesKind prog w) a kvs/\kvs.map (·.1)=es.map (·.1)/\tD B μ (es.map (·.2)) (kvs.map (·.2))/\es.length<=2000:=by
 have hl':H[p]?=some (.dict es):=by
  clear I hp;delta du at hl
  cases q:H[p]? with
  |none=>rw[q] at hl;cases hl
  |some o=>rw[q] at hl;cases o<;>cases hl;rfl
 (obtain⟨ob,h1,zq2,_⟩:=I.objs p a _ hp hl';obtain⟨kvs,h2,h3,h4,h5⟩:=zq2);exact(cY kvs (IL.mpr (ae ob h1 h2)) h3 h4 h5)
theorem uk.vU(k:Nat):(ee k==sysModules)=false:=by
 match k with
 |3 |4 |0 |1 |2 |_+5=>rfl
theorem ry(I:Inv c.prog c.w B c.U μ H s.heap)(G:uk c.prog c.w B){p:Nat}{a:Cz}(hp:μ[p]?=some a):(a==sysModules)=false:=by rw[EF];rintro rfl;obtain⟨o,e⟩:=G.mods;have h1:=I.fresh _ (Ea.mpr ⟨p,hp⟩);rw[e] at h1;cases h1
theorem acF(I:Inv c.prog c.w B c.U μ H s.heap){x:AV}{r:Bool}(vx:VR B μ x cx)(vy:VR B μ (.tup vs) cy)(h:gO (λy=>gI y x) vs=some r):
  ((∀t,Q (.bool r) {s with toks:=t})->CB (CA c.prog c.w) A (compareOp .In cx cy) Q E s)/\((∀t,Q (.bool (!r)) {s with toks:=t})->CB (CA c.prog c.w) A (compareOp .NotIn cx cy) Q E s):=by
 (obtain⟨a,tf,zq2,hb,hv⟩:=(vy.t);clear vy;subst zq2);obtain⟨g1,rfl⟩:=ad5 (A:=A.in1) (s:=s) vx hv h;exact⟨λhq=>in_tupleAt (jr x) (jz (I.base _ _ hb)) (λz hz=>g1 z (by simpa using hz)) (by simpa using hq s.toks),λhq=>notIn_tupleAt (jr x) (jz (I.base _ _ hb)) (λz hz=>g1 z (by simpa using hz)) (by simpa using hq s.toks)⟩
theorem adZ(I:Inv c.prog c.w B c.U μ H s.heap)(G:uk c.prog c.w B){x:AV}{r:Bool}(vx:VR B μ x cx)(vy:VR B μ y cy)(h:kn H x y=some r):
  ((∀t,Q (.bool r) {s with toks:=t})->CB (CA c.prog c.w) A (compareOp .In cx cy) Q E s)/\((∀t,Q (.bool (!r)) {s with toks:=t})->CB (CA c.prog c.w) A (compareOp .NotIn cx cy) Q E s):=by
 replace h:=uf.oI h;rcases h with⟨x,rfl,h⟩ |h
 ·replace h:=uf.oY h;rcases h with⟨b,rfl,h⟩ |h
  ·obtain⟨t,rfl⟩:=vx.i;(obtain⟨u,zq1,_⟩:=(vy.y);clear vy;subst zq1);obtain⟨hx,h⟩:=uf.pQ h;cases h;exact⟨λhq=>in_gives (DL _ _ _) Kk Kj (Ki _ _) (ab7 hx.1 hx.2) (hq s.toks),
    λhq=>notIn_gives (DL _ _ _) Kk Kj (Ki _ _) (ab7 hx.1 hx.2) (hq s.toks)⟩
  replace h:=uf.oT h;rcases h with⟨vs,rfl,h⟩ |h
  ·exact acF I vx vy h
  replace h:=uf.pG h;obtain⟨k,rfl,h⟩:=h;obtain⟨hk,h⟩:=uf.pQ h;cases h;obtain⟨t,rfl⟩:=vx.i;rw[vy.d.1];obtain⟨kvs,h1,h2⟩:=G.tabI k hk;have e:=my (k:=x) h2.1;have Aj:=h1.keep I.base;exact⟨λhq=>wpAny_in_of (nJ _ _) (uk.vU k) Aj.mapOf (by rw[e];exact hq _),λhq=>wpAny_notIn_of (nJ _ _) (uk.vU k) Aj.mapOf (by rw[e];exact hq _)⟩
 replace h:=uf.oY h;rcases h with⟨k,rfl,h⟩ |h
 ·replace h:=uf.oT h;rcases h with⟨vs,rfl,h⟩ |h
  ·exact acF I vx vy h
  replace h:=uf.pD h;obtain⟨p,es,rfl,hp,h⟩:=h;cases h;(obtain⟨t,zq1,_⟩:=(vx.y);clear vx;subst zq1);(obtain⟨a,zq1,ha⟩:=(vy.r);clear vy;subst zq1);obtain⟨kvs,h1,h2,h3,_⟩:=I.dict ha hp;have e:=my (k:=k) h2;exact⟨λhq=>wpAny_in_of (lV _ _) (ry I G ha) h1.mapOf (by rw[e];exact hq _),λhq=>wpAny_notIn_of (lV _ _) (ry I G ha) h1.mapOf (by rw[e];exact hq _)⟩
 replace h:=uf.pB h;obtain⟨x,rfl,h⟩:=h;replace h:=uf.pL h;obtain⟨p,xs,rfl,hp,h⟩:=h;(obtain⟨a,zq1,ha⟩:=(vy.r);clear vy;subst zq1);obtain⟨tf,n,h1,h2,_⟩:=I.list ha hp;obtain⟨g1,rfl⟩:=ad5 (A:=A.in1) (s:=s) vx h2 h;exact⟨λhq=>in_listAt (jr (.bool x)) (gP h1) (λz hz=>g1 z (by simpa using hz)) (by simpa using hq s.toks),λhq=>notIn_listAt (jr (.bool x)) (gP h1) (λz hz=>g1 z (by simpa using hz)) (by simpa using hq s.toks)⟩
theorem o6{f:Int->Int->Bool}{x:AV}{r:Bool}{o:CmpOp}(vx:VR B μ x cx)(vy:VR B μ y cy)(h:(aF none x λx=>aF none y λy=>some (f x y))=some r)(k:∀{x y:Int}{t u:Tok},Q (.bool (f x y)) s->CB (CA c.prog c.w) A (compareOp o (.int x t) (.int y u)) Q E s)
  (hq:Q (.bool r) s):CB (CA c.prog c.w) A (compareOp o cx cy) Q E s:=by
 replace h:=uf.pI h;obtain⟨x,rfl,h⟩:=h;replace h:=uf.pI h;obtain⟨y,rfl,h⟩:=h;cases h;obtain⟨_,rfl⟩:=vx.i;obtain⟨_,rfl⟩:=vy.i;exact k hq
theorem kN(I:Inv c.prog c.w B c.U μ H s.heap)(G:uk c.prog c.w B){o:yA}{x:AV}{r:Bool}(vx:VR B μ x cx)(vy:VR B μ y cy)(h:bj H o x y=some r)(hu:A.units+10<=9800)
  (hq:∀t,Q (.bool r) {s with toks:=t}):CB (CA c.prog c.w) A (compareOp (dI o) cx cy) Q E s:=by
 cases o with
 |eq=>exact(adY I vx vy h hu).1 (hq s.toks)
 |ne=>(obtain⟨b,h1,zq2⟩:=Ek.mp h;clear h;subst zq2);exact(adY I vx vy h1 hu).2 (hq s.toks)
 |lt=>exact o6 (f:=λx y=>decide (x<y)) vx vy h (λh=>lt_int h) (hq s.toks)
 |le=>exact o6 (f:=λx y=>decide (x<=y)) vx vy h (λh=>le_int h) (hq s.toks)
 |gt=>exact o6 (f:=λx y=>decide (x>y)) vx vy h (λh=>gt_int h) (hq s.toks)
 |ge=>exact o6 (f:=λx y=>decide (x>=y)) vx vy h (λh=>ge_int h) (hq s.toks)
 |isin=>exact(adZ I G vx vy h).1 hq
 |ui=>(obtain⟨b,h1,zq2⟩:=Ek.mp h;clear h;subst zq2);exact(adZ I G vx vy h1).2 hq
end
end
section
variable {c:tG}
theorem aex{value slice:CD}{o i:Cy}(h:ItemOn (CA c.prog c.w) A E o i Q s):CB (CA c.prog c.w) A (subscriptTail value slice o i) Q E s:=by
 obtain⟨T,id,hl,hT,h⟩:=h;unfold subscriptTail;refine wpAny_bind ?_;rw[getitemInPython_of_ne hT.not_modules];refine wpAny_bind (DM hT hl ?_);have fin:CB (CA c.prog c.w) A (subscripted slice false o i) (λr ue=>CB (CA c.prog c.w) A (letTemporaryGo value o r>>=λZ=>pure r) Q E ue) E s:=by
  have hs:subscripted slice false o i=operate [o,i] (getItem o i)\/subscripted slice false o i=operate [i,o] (getItem o i):=by
   cases slice with
   |Slice _ _ z _=>
    cases z with
    |none=>exact .inr rfl
    |some _=>exact .inl rfl
   |_=>exact .inl rfl
  have k:CB (CA c.prog c.w) A (getItem o i) (λr ue=>CB (CA c.prog c.w) A (letTemporaryGo value o r>>=λZ=>pure r) Q E ue) E s:=C1 h (λr ue vI=>wpAny_bind (wpAny_letTemporaryGo (wpAny_pure vI))) λZ Z x=>x
  rcases hs with hs |hs<;>rw[hs]<;>exact MS k
 first
  |exact wpAny_pure (wpAny_bind fin)
  |exact wpAny_bind (wpAny_pure (wpAny_bind fin))
  |exact wpAny_bind fin
theorem acg{n:Int}(h:IntsAre tf (n::ns)):∃t r,tf=.int n t::r/\IntsAre r ns:=by cases h;exact(bR _ _ rfl ‹_›)
theorem aiH:∀{ns:List Int}{tf:List Cy},IntsAre tf ns->∀{i:Nat}{v:Int},ns[i]?=some v->∃t,tf[i]?=some (.int v t):=by
 intro zi
 induction zi with
 |nil=>
 exact @λZ Z i v e=>by simp at e
 |cons n ns ih=>
 exact @λZ h i v e=>by
  (obtain⟨t,r,zq2,h2⟩:=acg h;clear h;subst zq2)
  cases i with
  |zero=>cases e;exact⟨t,rfl⟩
  |succ i=>exact ih h2 e
theorem rg:∀{ns:List Int}{tf:List Cy},IntsAre tf ns->tf.length=ns.length:=by
 intro zi
 induction zi with
 |nil=>
 exact @λZ h=>by cases h;rfl
 |cons n ns ih=>
 exact @λZ h=>by(obtain⟨t,r,zq2,h2⟩:=acg h;clear h;subst zq2);exact CH (·+1) (ih h2)
theorem cH{a:Cz}{n:Nat}(e:h.get? a=some {cls:=.type "list",data:=.seq (Da tf) n}):h.IsList a tf.toArray:=(lU _ e rfl n rfl)
theorem ru{xs:List α}{i:Int}{v:α}(h0:0<=i)(h:xs[i.toNat]?=some v)(hl:xs.length<=al):i<xs.length/\i<16777216:=by have:=(List.getElem?_eq_some_iff.mp h).1;rw[dN] at hl;exact amx h0 hl this
theorem ais{b:List UInt8}{i:Int}(vx:VR B μ (.bytes b) cx)(h:au none (0<=i) ((b[i.toNat]?).map λc=>AV.int c.toNat)=some v)(hq:∀t cv,VR B μ v cv->Q cv {s with toks:=t}):ItemOn (CA c.prog c.w) A E cx (.int i t) Q s:=by
 obtain⟨h0,h⟩:=uf.pQ h;(obtain⟨u,h1,zq2⟩:=Ek.mp h;clear h;subst zq2);(obtain⟨t',zq1,hs⟩:=(vx.y);clear vx;subst zq1);have hl:=ru h0 h1 hs
 refine(ax "bytes" _ IJ.lookup (DL _ _ _) (getItem_bytes (Nat.le_trans hs (by decide)) h0 hl.1 ?_))
 rw[show(b.getD i.toNat 0)=u by rw[List.getD_eq_getElem?_getD,h1];rfl];exact hq _ _ (.int _ _)
theorem aiz(I:Inv c.prog c.w B c.U μ H s.heap){p:Nat}{xs:List AV}{i:Int}(hp:az H p=some xs)(vx:VR B μ (.ref p) cx)(h:jy xs i=some v)(hq:∀t cv,VR B μ v cv->Q cv {s with toks:=t}):ItemOn (CA c.prog c.w) A E cx (.int i t) Q s:=by
 (obtain⟨a,zq1,ha⟩:=(vx.r);clear vx;subst zq1);obtain⟨tf,n,h1,h2,h3⟩:=I.list ha hp;have t6:tf.toArray.size=xs.length:=h2.length;unfold jy at h
 split at h
 ·rename_i h0
  have hl:=ru h0 h h3;obtain⟨cv,h4,h5⟩:=h2.get h
  exact(ax "list" _ Iu ((cH h1).typeIs) (MO (cH h1) h0 (Fi hl.2 (by decide)) (by simpa using h4) (hq s.toks _ h5)))
 ·replace h:=uf.pQ h;obtain⟨h0,h⟩:=h;obtain⟨cv,h4,h5⟩:=h2.get h;rw[dN] at h3
  exact(ax "list" _ Iu ((cH h1).typeIs) (wpAny_getItem_list_neg (cH h1) (by exact amy (by assumption)) (by rw[t6];exact amz t6 h0) (by omega) (by rw[t6];simpa using h4) (hq s.toks _ h5)))
theorem aiA(I:Inv c.prog c.w B c.U μ H s.heap){vs:List AV}{i:Int}(vx:VR B μ (.tup vs) cx)(h:au none (0<=i/\i<1000) (vs[i.toNat]?)=some v)(hq:∀t cv,VR B μ v cv->Q cv {s with toks:=t}):ItemOn (CA c.prog c.w) A E cx (.int i t) Q s:=by
 obtain⟨⟨h0,h0'⟩,h⟩:=uf.pQ h;(obtain⟨a,tf,zq2,hb,hv⟩:=(vx.t);clear vx;subst zq2);have hl:=(List.getElem?_eq_some_iff.mp h).1;obtain⟨cv,h4,h5⟩:=hv.get h;have ht:IsTup s.heap a tf.toArray:=(lU _ (I.base _ _ hb) rfl _ rfl)
 refine(ax "tuple" _ slot_tuple_getitem.lookup ht.typeIs (getItem_tuple ht (by omega) (by omega) ?_ (by simpa using h4) (hq s.toks _ h5)))
 have hn:¬i<0:=by exact amA h0 h0'
 have t6:tf.toArray.size=vs.length:=hv.length;have h1:i<vs.length:=by exact amB h0 h0' hl t6
 simp[seqIndex?,hn,h0,t6,h1,hv.length]
theorem aiy(I:Inv c.prog c.w B c.U μ H s.heap){i:Int}(vx:VR B μ (.tR ns) cx)(h:au none (0<=i) ((ns[i.toNat]?).map AV.int)=some v)(hq:∀t cv,VR B μ v cv->Q cv {s with toks:=t}):ItemOn (CA c.prog c.w) A E cx (.int i t) Q s:=by
 obtain⟨h0,h⟩:=uf.pQ h;(obtain⟨u,h1,zq2⟩:=Ek.mp h;clear h;subst zq2);(obtain⟨a,tf,zq2,zq3,hv,hs⟩:=(vx.f);clear vx;subst zq2;obtain⟨o,e,q⟩:=zq3);have hl:=ru h0 h1 hs;obtain⟨t',h4⟩:=aiH hv h1;have wY:s.heap.IsList a tf.toArray:=(ae o (I.base _ _ e) q)
 exact(ax "list" _ Iu wY.typeIs (MO wY h0 (Fi hl.2 (by decide)) (by simpa using h4) (hq s.toks _ (.int _ _))))
theorem ao1(I:Inv c.prog c.w B c.U μ H s.heap)(G:uk c.prog c.w B){x:AV}(vx:VR B μ x cx)(vy:VR B μ y cy)(h:eJ H x y=some v)
  (hq:∀t cv,VR B μ v cv->Q cv {s with toks:=t}):ItemOn (CA c.prog c.w) A E cx cy Q s:=by
 replace h:=uf.oI h;rcases h with⟨i,rfl,h⟩ |h
 ·obtain⟨t,rfl⟩:=vy.i;replace h:=uf.oY h;rcases h with⟨b,rfl,h⟩ |h
  ·exact ais vx h hq
  replace h:=uf.oL h;rcases h with⟨p,xs,rfl,hp,h⟩ |h
  ·exact aiz I hp vx h hq
  replace h:=uf.oT h;rcases h with⟨vs,rfl,h⟩ |h
  ·exact aiA I vx h hq
  replace h:=uf.oF h;rcases h with⟨ns,rfl,h⟩ |h
  ·exact aiy I vx h hq
  replace h:=uf.pG h;obtain⟨k,rfl,h⟩:=h;obtain⟨hk,h⟩:=uf.pQ h;rw[vx.d.1];obtain⟨kvs,h1,h2⟩:=G.tabI k hk;have Aj:=h1.keep I.base;obtain⟨cv,h5,h6⟩:=sJ h2.1 (h2.2 μ) h
  exact(ax "dict" _ MH.lookup Aj.mapOf.typeIs (MP (nJ _ _) Aj.mapOf h5 (hq _ _ h6)))
 replace h:=uf.pY h;obtain⟨k,rfl,h⟩:=h;(obtain⟨t,zq1,_⟩:=(vy.y);clear vy;subst zq1);replace h:=uf.pD h;obtain⟨p,es,rfl,hp,h⟩:=h;(obtain⟨a,zq1,ha⟩:=(vx.r);clear vx;subst zq1);obtain⟨kvs,h1,h2,h3,h4⟩:=I.dict ha hp;obtain⟨cv,h5,h6⟩:=sJ h2 h3 h
 exact(ax "dict" _ MH.lookup h1.mapOf.typeIs (MP (lV _ _) h1.mapOf h5 (hq _ _ h6)))
inductive uz(B:CF)(μ:List Cz):List AV->Cy->Prop
 |none:uz B μ [] .none
 |some {v:AV} {c:Cy}:VR B μ v c->uz B μ [v] c
theorem tD.take{B:CF}{μ:List Cz}:∀{n:Nat}{vs:List AV}{cs:List Cy},tD B μ vs cs->tD B μ (vs.take n) (cs.take n)
 |0,_,_,_=>.nil
 |_+1,[],_,h=>by rw[h.n];exact .nil
 |_+1,_::_,_,h=>by obtain⟨_,_,rfl,h,hs⟩:=h.c;exact .cons h (tD.take hs)
theorem tD.drop{B:CF}{μ:List Cz}:∀{n:Nat}{vs:List AV}{cs:List Cy},tD B μ vs cs->tD B μ (vs.drop n) (cs.drop n)
 |0,_,_,h=>h
 |_+1,[],_,h=>by rw[h.n];exact .nil
 |n+1,_::_,_,h=>by(obtain⟨_,_,zq2,_,hs⟩:=(h.c);clear h;subst zq2);exact tD.drop (n:=n) hs
theorem tD.every{B:CF}{μ:List Cz}{st:Nat}:∀{n:Nat}{vs:List AV}{cs:List Cy},tD B μ vs cs->tD B μ (every st n vs) (Internal.every st n cs)
 |0,_,_,_=>.nil
 |_+1,[],_,h=>by rw[h.n];exact .nil
 |_+1,_::_,_,h=>by obtain⟨_,_,rfl,h,hs⟩:=h.c;exact .cons h (tD.every (tD.drop hs))
theorem qL{α:Type}{st:Nat}:∀(m k:Nat)(ys:List α),ys.length<=m->ys.length<=k->every st m ys=every st k ys
 |0,k,ys,h1,h2=>by rw[Gw.mp (LD.mp h1)];clear h2;cases k<;>rfl
 |m+1,k,[],h1,h2=>by clear h2;cases k<;>rfl
 |m+1,0,y::ys,h1,h2=>CI h2 (Nat.not_succ_le_zero _)
 |m+1,k+1,y::ys,h1,h2=>CH (y::·) (qL m k _ (by rw[Dd];exact Nat.le_trans (DK _ _) (Hh h1)) (by rw[Dd];exact Nat.le_trans (DK _ _) (Hh h2)))
theorem abT{α:Type}{st:Nat}:∀{n:Nat}{vs:List α},(every st n vs).length<=n
 |0,_=>Nat.le_refl _
 |_+1,[]=>DY _
 |_+1,_::_=>EE abT
theorem abv(xs:List α)(lo hi:Nat):(xs.drop (min lo xs.length)).take (min hi xs.length-min lo xs.length)=cut xs lo hi:=by
 unfold cut;apply HX;intro i;simp only[Jf,G9]
 by_cases h1:min lo xs.length+i<xs.length
 ·have BX:lo+i<xs.length:=by exact amC h1
  have e:min lo xs.length=lo:=by exact amD h1
  rw[e]
  split<;>split<;>first |rfl |(exfalso;omega)
 ·have BX:¬lo+i<xs.length:=by exact amE h1
  rw[Dq (amF h1),Dq (amG BX)]
  split<;>split<;>rfl
theorem aoq(xs:List α)(st:Nat)(hs:0<st):∀(n:Nat)(k a:Nat),n=(xs.drop a).length->k=(xs.length-a+st-1)/st->
  ((CL k).map (λj=>a+st*j)).filterMap (xs[·]?)=every st n (xs.drop a):=by
 intro n
 induction n using LP with
 |ind n ih=>
  intro k a hn hk
  by_cases ha:a<xs.length
  ·have hd:xs.drop a=xs[a]::xs.drop (a+1):=KM ha
   cases n with
   |zero=>rw[Dd] at hn;exact(amH ha hn).elim
   |succ n=>
   rw[hd];have wS:k=(xs.length-(a+st)+st-1)/st+1:=by
    subst hk
    by_cases hb:a+st<=xs.length
    ·rw[show xs.length-a+st-1=(xs.length-(a+st)+st-1)+st by exact amI hs ha hb,Lm _ hs]
    ·rw[show xs.length-(a+st)=0 by exact amJ hb,EO,GD (show st-1<st by exact rP hs)];rw[show xs.length-a+st-1=(xs.length-a-1)+st by exact amK hs ha hb,Lm _ hs,GD (amL ha hb)]
   rw[wS,Ld,DS,Gv,Ip,Il,List.getElem?_eq_getElem ha];show xs[a]::_=xs[a]::_;congr 1;rw[FZ];rw[Ja];have e:((λj=>a+st*j)∘Nat.succ)=λj=>(a+st)+st*j:=by funext j;show a+st*(j+1)=_;rw[LL];exact amM
   rw[e];have hlen:n=(xs.drop (a+1)).length:=by rw[Dd] at hn⊢;exact amN ha hn
   have:=ih ((xs.drop (a+st)).length) (by rw[Dd];rw[Dd] at hlen;exact amO hs ha hn hlen) _ (a+st) rfl rfl;rw[this,show a+1+(st-1)=a+st by exact amP hs];exact qL _ _ _ (Nat.le_refl _) (by rw[Dd];rw[Dd] at hlen;exact amQ hs ha hn hlen)
  ·have hd:xs.drop a=[]:=GY (akv ha);rw[hd];have:k=0:=by
    rw[hk,show xs.length-a=0 by exact amR ha,EO];exact GD (rP hs)
   clear hk;subst this;clear ih hn;cases n<;>rfl
theorem adL(b:List UInt8)(lo hi:Option Nat):KBy.picked b.toArray (lo.map λn:Nat=>(n:Int)) (hi.map λn:Nat=>(n:Int))=(cut b (lo.getD 0) (hi.getD b.length)).toArray:=by
 rw[KBc.picked_eq];congr 1;simp only[De];have e1:(lo.map λn:Nat=>(n:Int)).elim 0 (clipAt b.length)=min (lo.getD 0) b.length:=by
  cases lo with
  |none=>simp
  |some n=>exact Is _ _
 have e2:(hi.map λn:Nat=>(n:Int)).elim b.length (clipAt b.length)=min (hi.getD b.length) b.length:=by
  cases hi with
  |none=>simp
  |some n=>exact Is _ _
 rw[e1,e2];exact abv b _ _
theorem qz(xs:List α)(lo hi:Nat):(cut xs lo hi).length<=xs.length:=by unfold cut;rw[Dd,Dg];exact amS
theorem tD.cut{lo hi:Nat}{vs:List AV}(h:tD B μ vs cs):tD B μ (cut vs lo hi) (Internal.cut cs lo hi):=(h.take).drop
theorem aji(xs:List Cy)(lo hi:Option Nat):slicePick xs.toArray (lo.map λn:Nat=>(n:Int)) (hi.map λn:Nat=>(n:Int)) none=(cut xs (lo.getD 0) (hi.getD xs.length)).toArray:=by
 rw[slicePick_plain];congr 1;simp only[De];have e1:(lo.map λn:Nat=>(n:Int)).elim 0 (clipAt xs.length)=min (lo.getD 0) xs.length:=by
  cases lo with
  |none=>simp
  |some n=>exact Is _ _
 have e2:(hi.map λn:Nat=>(n:Int)).elim xs.length (clipAt xs.length)=min (hi.getD xs.length) xs.length:=by
  cases hi with
  |none=>simp
  |some n=>exact Is _ _
 rw[e1,e2];exact abv xs _ _
theorem aa9(a b:Nat):max (0:Int) (min (a:Int) (b:Int))=((min a b:Nat):Int):=by
 rw[Ku (Int.le_min.mpr ⟨DO _,DO _⟩)];rcases Jq a b with h |h
 ·rw[ED h,Int.min_eq_left (DP.mpr h)]
 ·rw[Fn h,Int.min_eq_right (DP.mpr h)]
theorem ajj(xs:List Cy)(lo hi st:Nat)(hs:0<st):slicePick xs.toArray (some (lo:Int)) (some (hi:Int)) (some (st:Int))=(every st xs.length (cut xs lo hi)).toArray:=by
 unfold slicePick;congr 1;have e:sliceBounds (some (lo:Int)) (some (hi:Int)) (some (st:Int)) xs.toArray.size=(((min lo xs.length:Nat):Int),((min hi xs.length:Nat):Int),(st:Int)):=by
  unfold sliceBounds;simp only[De,Fo];have h1:((st:Int)>0):=by exact adt hs
  have h2:¬((lo:Int)<0):=by exact adu
  have h3:¬((hi:Int)<0):=by exact adu
  simp only[h1,h2,h3,if_true,Fd];exact Jw (aa9 lo _) (Jw (aa9 hi _) rfl)
 rw[e];show(sliceRange _ _ _).filterMap _=_;have atk:cut xs lo hi=(xs.take (min hi xs.length)).drop (min lo xs.length):=by
  unfold cut
  by_cases h1:hi<=xs.length
  ·rw[ED h1]
   by_cases h2:lo<=xs.length
   ·rw[ED (alf h2)]
   ·rw[GY (by rw[Dg];exact amT h1 h2),GY (by rw[Dg];exact amU h1 h2)]
  ·rw[EB (adm h1),EB (adv h1)]
   by_cases h2:lo<=xs.length
   ·rw[ED h2]
   ·rw[GY (adm h2),GY (adv h2)]
 rw[atk];refine cX (min lo xs.length) λl hL=>?_;refine cX (min hi xs.length) λu hU=>?_;have hu:u<=xs.length:=by exact amW hU
 have hlen:(xs.take u).length=u:=by rw[Dg];exact amX hu
 have hr:sliceRange (l:Int) (u:Int) (st:Int)=(CL ((u-l+st-1)/st)).map λj=>l+st*j:=by
  unfold sliceRange;have h1:((st:Int)>0):=by exact adt hs
  simp only[h1,if_true];have hc:(if(l:Int)<u then((u:Int)-l+st-1)/st else 0).toNat=(u-l+st-1)/st:=by
   split
   ·rw[show((u:Int)-l+st-1)=((u-l+st-1:Nat):Int) by exact amY hs hlen (by assumption),<-Kx];rfl
   ·rw[show u-l=0 by exact amZ hlen (by assumption),EO,GD (rP hs)];rfl
  rw[hc];apply List.map_congr_left;intro j _;have:(l:Int)+(st:Int)*(j:Int)=((l+st*j:Nat):Int):=by push_cast;rfl
  rw[this];rfl
 rw[hr];have key:=aoq (xs.take u) st hs _ _ l rfl (by rw[hlen]);have same:((CL ((u-l+st-1)/st)).map λj=>l+st*j).filterMap (xs.toArray[·]?)=((CL ((u-l+st-1)/st)).map λj=>l+st*j).filterMap ((xs.take u)[·]?):=by
  have fc:∀(l:List Nat)(f g:Nat->Option Cy),(∀x∈l,f x=g x)->l.filterMap f=l.filterMap g:=by
   intro l f g h
   induction l with
   |nil=>rfl
   |cons x l ih=>rw[Gv,Gv,h x (by simp),ih λy hy=>h y (by simp[hy])]
  apply fc;intro p hp;(obtain⟨j,hj,zq2⟩:=Dt.mp hp;clear hp;subst zq2);rw[Fj] at hj;have:l+st*j<u:=by have h1:(j+1)*st<=u-l+st-1:=Nat.le_trans (Eb _ hj) (Nat.div_mul_le_self _ _);rw[Lq,Nat.one_mul,Jr] at h1;exact am0 hs hlen h1
  simp[Jf,this]
 rw[same,key];exact qL _ _ _ (Nat.le_refl _) (by rw[Dd,hlen];exact am1 hu hlen)
theorem kO{b:List UInt8}{sl:Cz}{vl vu:Cy}{lo hi:Option Nat}(hb:b.length<=al)(hs:s.heap.IsSliceOf sl vl vu .none)
  (pl:IsPart vl (lo.map λn:Nat=>(n:Int))) (pu:IsPart vu (hi.map λn:Nat=>(n:Int))) (hq:∀t' k,Q (.bytes (cut b (lo.getD 0) (hi.getD b.length)).toArray t') {s with toks:=k}):
  ItemOn (CA c.prog c.w) A E (.bytes b.toArray t) (.ref sl) Q s:=by
 refine(ax "bytes" _ IJ.lookup (DL _ _ _) (getItem_meets (DL _ _ _) (by decide) IJ FB.entry_bytes_getitem (FB.args_bytes_getitem_2 _ _) (KBc.meets_slice2 b.toArray t _ pl pu) ⟨hs,?_,?_⟩))
 ·rw[adL,De,fF];have:=qz b (lo.getD 0) (hi.getD b.length);rw[dN] at hb;exact am2 hb this
 ·rw[adL];exact hq
theorem aeb{a sl:Cz}{xs ys:List AV}{cys:List Cy}{n:Nat}{vl vu vs:Cy}{lo hi st:Option Int}(I:Inv c.prog c.w B c.U μ H s.heap)(h1:s.heap.get? a=some {cls:=.type "list",data:=.seq (Da tf) n})(hl:tf.length<=al)
  (hs:s.heap.IsSliceOf sl vl vu vs) (pl:IsPart vl lo) (pu:IsPart vu hi) (ps:IsPart vs st) (h0:st≠some 0) (e:slicePick tf.toArray lo hi st=cys.toArray) (hy:tD B μ ys cys) (hyl:ys.length<=al)
  (P:s6 c s B μ VR (.ok (.ref H.length) (H++[.list ys]):R AV) Q E):
  ItemOn (CA c.prog c.w) A E (.ref a) (.ref sl) Q s:=by
 refine(ax "list" _ Iu ((cH h1).typeIs) (wpAny_getItem_list_slice (cH h1) hs pl pu ps h0 ?_ (by rw[De,fF];exact hl)))
 rw[e];exact P B _ _ s.toks _ (λZ Z e=>e) (Pre.snoc _ _) (acW I hy hyl) (.ref _ _ (kt I.len))
theorem r8{c:Cy}(h:uz B μ [] c):c=.none:=by cases h;rfl
theorem kE{c:Cy}{i:Int}(h:uz B μ [.int i] c):∃t,c=.int i t:=by cases h with |some h=>exact h.i
theorem adH{i:Int}(h:0<=i):(some i:Option Int)=((some i.toNat).map λn:Nat=>(n:Int)):=by rw[L1,GU h]
theorem nK{i:Int}(h:0<=i):IsPart (.int i t) ((some i.toNat).map λn:Nat=>(n:Int)):=by rw[<-adH h];exact .int i t
theorem ag0{xs:List α}{n m:Nat}(h:xs.length<=m):(xs.drop n).length<=m:=by rw[Dd];exact Nat.le_trans (DK _ _) h
theorem aqi{xs:List α}{n m:Nat}(h:xs.length<=m):(xs.take n).length<=m:=by rw[Dg];exact Nat.le_trans (DV _ _) h
section
variable {x:AV}{lo hi st:List AV}{vl vu vs:Cy}{sl:Cz}
theorem apf(I:Inv c.prog c.w B c.U μ H s.heap){p:Nat}{xs:List AV}{l u t:Int}(hp:az H p=some xs)(vx:VR B μ (.ref p) cx)(pl:uz B μ [.int l] vl)(pu:uz B μ [.int u] vu)(ps:uz B μ [.int t] vs)(hs:s.heap.IsSliceOf sl vl vu vs)(h:cg l/\cg u/\0<t/\t<ji)
  (P:s6 c s B μ VR (.ok (.ref H.length) (H++[.list (every t.toNat xs.length (cut xs l.toNat u.toNat))]):R AV) Q E):ItemOn (CA c.prog c.w) A E cx (.ref sl) Q s:=by
 (revert h;refine r_aaa λzq0 zq1 h5 h6=>?_;obtain⟨h1,h2⟩:=zq0;obtain⟨h3,h4⟩:=zq1);obtain⟨_,rfl⟩:=kE pu;obtain⟨_,rfl⟩:=kE pl;obtain⟨_,rfl⟩:=kE ps;(obtain⟨a,zq1,ha⟩:=(vx.r);clear vx;subst zq1);obtain⟨tf,n,g1,g2,g3⟩:=I.list ha hp;refine aeb (xs:=xs) I g1 (by rw[g2.length];exact g3) hs (.int _ _) (.int _ _) (.int _ _) (λe=>by clear P h6 ps hs;cases e;cases h5) ?_ g2.cut.every (Nat.le_trans abT g3) P;have:=ajj tf l.toNat u.toNat t.toNat (Int.pos_iff_toNat_pos.mp h5);rw[GU h1,GU h3,GU (EJ h5)] at this;rw[this,g2.length]
theorem ad0(I:Inv c.prog c.w B c.U μ H s.heap){p:Nat}{xs:List AV}{l u:Option Int}(hp:az H p=some xs)(vx:VR B μ (.ref p) cx)(pl:IsPart vl l)(pu:IsPart vu u)(hs:s.heap.IsSliceOf sl vl vu .none)(hl:∀i,l=some i->0<=i)(hu:∀i,u=some i->0<=i)
  (P:s6 c s B μ VR (.ok (.ref H.length) (H++[.list (cut xs ((l.map DB).getD 0) ((u.map DB).getD xs.length))]):R AV) Q E):ItemOn (CA c.prog c.w) A E cx (.ref sl) Q s:=by
 (obtain⟨a,zq1,ha⟩:=(vx.r);clear vx;subst zq1);obtain⟨tf,n,g1,g2,g3⟩:=I.list ha hp;have nat:∀o:Option Int,(∀i,o=some i->0<=i)->(o.map DB).map (λn:Nat=>(n:Int))=o:=λo h=>by
  cases o with
  |none=>rfl
  |some i=>exact(adH (h i rfl)).symm
 refine aeb (xs:=xs) (cys:=cut tf ((l.map DB).getD 0) ((u.map DB).getD tf.length)) I g1 (by rw[g2.length];exact g3) hs pl pu .none nofun ?_ (by rw[g2.length];exact g2.cut) (Nat.le_trans (qz ..) g3) P;have:=aji tf (l.map DB) (u.map DB)
 rwa [nat l hl,nat u hu] at this
theorem ape(I:Inv c.prog c.w B c.U μ H s.heap)(vx:VR B μ x cx)(pl:uz B μ lo vl)(pu:uz B μ hi vu)(ps:uz B μ st vs)
  (hs:s.heap.IsSliceOf sl vl vu vs) (P:s6 c s B μ VR (dA H x lo hi st) Q E):ItemOn (CA c.prog c.w) A E cx (.ref sl) Q s:=by
 replace P:=s6.o0 P;rcases P with⟨rfl,P⟩ |P
 ·obtain rfl:=r8 ps;replace P:=P.o0;rcases P with⟨rfl,P⟩ |P
  ·obtain rfl:=r8 pl;replace P:=P.p1;obtain⟨u,rfl,P⟩:=P;replace P:=P.pI;obtain⟨u,rfl,P⟩:=P;obtain⟨_,rfl⟩:=kE pu;replace P:=P.oY;rcases P with⟨b,rfl,P⟩ |P
   ·obtain⟨h,P⟩:=P.pQ;(obtain⟨t,zq1,hb⟩:=(vx.y);clear vx;subst zq1);refine kO (lo:=none) hb hs .none (nK h.1) λt' k=>P.now I ?_;exact .bytes _ _ (aqi hb)
   replace P:=P.pL;obtain⟨p,xs,rfl,hp,P⟩:=P;obtain⟨h,P⟩:=P.pQ;exact ad0 I hp vx .none (.int u _) hs nofun (λi e=>by cases e;exact h.1) P
  replace P:=P.p1;obtain⟨l,rfl,P⟩:=P;replace P:=P.pI;obtain⟨l,rfl,P⟩:=P;obtain⟨_,rfl⟩:=kE pl;replace P:=P.o0;rcases P with⟨rfl,P⟩ |P
  ·obtain rfl:=r8 pu;replace P:=P.oY;rcases P with⟨b,rfl,P⟩ |P
   ·obtain⟨h,P⟩:=P.pQ;(obtain⟨t,zq1,hb⟩:=(vx.y);clear vx;subst zq1);refine kO (hi:=none) hb hs (nK h.1) .none λt' k=>P.now I ?_;show VR B μ _ (.bytes (IZ l.toNat (b.take b.length)).toArray t');rw[Fz];exact .bytes _ _ (ag0 hb)
   replace P:=P.pL;obtain⟨p,xs,rfl,hp,P⟩:=P;obtain⟨h,P⟩:=P.pQ;refine ad0 I hp vx (.int l _) .none hs (λi e=>by cases e;exact h.1) nofun ?_;show s6 c s B μ VR (.ok _ (H++[.list (IZ l.toNat (xs.take xs.length))])) Q E;rw[Fz];exact P
  replace P:=P.p1;obtain⟨u,rfl,P⟩:=P;replace P:=P.pI;obtain⟨u,rfl,P⟩:=P;obtain⟨_,rfl⟩:=kE pu;replace P:=P.pY;obtain⟨b,rfl,P⟩:=P;obtain⟨h,P⟩:=P.pQ;(obtain⟨t,zq1,hb⟩:=(vx.y);clear vx;subst zq1);exact kO (hi:=some u.toNat) hb hs (nK h.1.1) (nK h.2.1) λt' k=>P.now I (.bytes _ _ (Nat.le_trans (qz ..) hb))
 replace P:=P.pL;obtain⟨p,xs,rfl,hp,P⟩:=P;replace P:=P.p1;obtain⟨l,rfl,P⟩:=P;replace P:=P.p1;obtain⟨u,rfl,P⟩:=P;replace P:=P.p1;obtain⟨t,rfl,P⟩:=P;replace P:=P.pI;obtain⟨l,rfl,P⟩:=P;replace P:=P.pI;obtain⟨u,rfl,P⟩:=P;replace P:=P.pI;obtain⟨t,rfl,P⟩:=P;obtain⟨h,P⟩:=P.pQ;exact apf I hp vx pl pu ps hs h P
end
end
theorem aid:typeLookup (.type "bytes") "__bytes__"=pure (some (.builtin "bytes.__bytes__")):=by rw[Ew,Ev];kernel_rfl
section
variable {w:CQ}
theorem agb{b:Array UInt8}(hQ:Q (.bytes b t) s):
  codeAny (CA prog w) A (.call (.builtin "bytes.__new__") ⟨[.type "bytes",.bytes b t],[]⟩) (wants Q E) s:=by
 refine Hz ?_
 show CB _ A.in1 (do Fc "bytes.__new__" ⟨[.type "bytes",.bytes b t],[]⟩;again (.builtin "bytes.__new__" ⟨[.type "bytes",.bytes b t],[]⟩)) _ _ s
 refine wpAny_bind (C4 (F.bm_newCall _) (wpAny_pure ⟨GM HM _,JH F.bm_entry ?_⟩));rw[HD HM _];unfold Builtin.«bytes.__new__»;refine wpAny_bind (C4 rfl ?_);refine DF rfl ?_;refine wpAny_bind (C4 F.bm_sub ?_);refine DF rfl ?_;refine wpAny_bind (C4 (F.bm_bind _) ?_);refine wpAny_bind (C4 rfl ?_);refine wpAny_bind (C4 rfl ?_);refine DF rfl ?_;refine wpAny_bind (DM (DL s b t) aid ?_);refine wpAny_bind (HC ?_);refine wpAny_bind (Iz (DL s b t) ?_);refine GL rfl ?_;exact wpAny_pure hQ
theorem agm{b:Array UInt8}(hQ:Q (.bytes b t) s):CB (CA prog w) A (call (.type "bytes") [.bytes b t]) Q E s:=by
 refine JF (Q₁:=λobj td=>td.TypeIs obj "bytes"/\Q obj td) Gp (Kf _) Kg
  (agb ⟨Mj _ _ _,hQ⟩) λobj td tj=>?_
 exact⟨tj.1,Ke obj _,MC Gp.init.lookup Gp.made (by decide) prog w A.in1 _ td ⟨tj.1,rfl,tj.2⟩⟩
theorem ail{b:Array UInt8}{Q:Bool->CC->Prop}(h:Q false s):CB (CA prog w) A (Kc (.bytes b t)) Q E s:=by
 have hT:=DL s b t;unfold Kc;refine wpAny_bind (DM hT FB.slot_bytes_len.lookup ?_)
 refine cX (("bytes.__len__":String)) λid0 hid=>?_
 wp_delta
 rw[show splitId id0=some ("bytes","__len__") from by subst hid;decide+kernel]
 subst hid;refine wpAny_bind (GN (b:=true) hT (by rw[It];kernel_rfl) ?_);refine JQ (λye=>CI ye (by decide)) (λZ=>?_);refine JQ (λZ=>?_) (λye=>CI (by decide+kernel) ye);refine wpAny_bind (Iz hT ?_);exact wpAny_pure h
theorem ahw{R:Result->CC->Prop}{b:Array UInt8}(hh:A.handled=none)(S:Cz)(hS:s.heap.get? S=some {cls:=.type "list",data:=.seq #[]})(hn:b.size<=sizeLine)
  (hR:∀h' tk v7 c',(∀b o,b≠S->s.heap.get? b=some o->h'.get? b=some o)->h'.get? S=some {cls:=.type "list",dict:=none,data:=.seq v7 c',slots:=#[]}->ItemsOf (λi v=>∃c u,b[i]?=some c/\v=.int (c.toNat:Int) u) v7 b.size->R (.ok (.ret .none)) {s with heap:=h',toks:=tk}):
  CB (CA prog w) A.in1 (HL (.ref S) (.bytes b t) .none)
   (λfin s'=>match fin with | .done f=>R (.ok f) s' | .again c'=>c'.quiet=true/\codeAny (CA prog w) A c' R s') (λe s'=>R (.error e) s') s:=by
 have hSI:S≠s.heap.objs.size:=CP (Db hS);have hSf:S∉[s.heap.objs.size]:=by simp only[CR,DE,DG];exact hSI
 have W:=KBw.walks (prog:=prog) (w:=w) (A:=A.in1) hh s.heap.objs.size b t;have key:∀(h:CF)(c₁ tk:Nat),IU h s.heap.objs.size b t 0->(∀b o,b≠S->s.heap.get? b=some o->h.get? b=some o)->
   h.get? S=some {cls:=.type "list",data:=.seq #[] c₁}->codeAny (CA prog w) A (.builtin "list.extend.loop" ⟨[.ref S,.ref s.heap.objs.size,.none],[]⟩) R {s with heap:=h,toks:=tk}:=by
  intro h c₁ tk yV hk wX;refine codeAny_extend_loopS W.toS hn S hSf .none b.size 0 _ #[] c₁ rfl (DY _) yV wX (ItemsOf.nil _) λs' v7 c' hm BE yg=>?_;rw[Moved.eq_with hm];refine hR s'.heap s'.toks v7 c' (λb o hb e=>hm.heap b o (λxP=>?_) (hk b o hb e)) BE yg;rcases CR.mp xP with e' |xP
  ·exact hb e'
  ·exact CI (Db e) (by rw[DD.mp xP];exact CS _)
 unfold HL;refine wpAny_bind (Iz (DL s b t) ?_);have h1:M5 (.ref S) (.bytes b t)=false:=rfl
 have h2:(Fp "bytes"==Fp "list")=false:=by decide
 have h3:(Fp "bytes"==Fp "tuple")=false:=by decide
 simp -iota only[h1,h2,h3,Gn,Fg,Fd];refine wpAny_bind (KC ?_)
 have hit:IU (s.heap.push {cls:=.type "bytes_iterator",data:=.fields #[.bytes b t,.int 0 0]}) s.heap.objs.size b t 0:=(aI _ (DA _ rfl) rfl rfl)
 have wX:=C6 ({cls:=.type "bytes_iterator",data:=.fields #[.bytes b t,.int 0 0]}:Obj) hS
 refine wpAny_bind (Dv (ail ?_));refine JQ (λZ=>?_) (λZ=>wpAny_pure ⟨GM Ma _,key _ _ _ hit (λb o Z e=>C6 _ e) wX⟩);refine wpAny_bind (HC ?_);refine wpAny_bind ?_;show CB _ _ (updateSeq S (·.push .none)>>=λZ=>updateSeq S (·.pop)) _ _ _;refine wpAny_bind (JV wX rfl ?_);have xD:=Em (GJ (·.push Dh)) wX rfl;refine JV (hz:=by seq_fits) xD rfl ?_;have asz:=Em (GJ (·.pop)) xD rfl;refine wpAny_pure ⟨GM Ma _,key _ _ _ ?_ (λb o hb e=>?_) asz⟩
 ·refine W.frame 0 _ _ hit λb hb o e=>?_;have hbS:b≠S:=λh=>hSf (h▸hb);exact(Ed _ _ (Dn hbS)).trans ((Ed _ _ (Dn hbS)).trans e)
 ·exact(Ed _ _ (Dn hb)).trans ((Ed _ _ (Dn hb)).trans (C6 _ e))
theorem agn{b:Array UInt8}(hh:A.handled=none)(hn:b.size<=sizeLine)
  (hQ:∀h' tk v7 c',(∀b o,s.heap.get? b=some o->h'.get? b=some o)->h'.get? s.heap.objs.size=some {cls:=.type "list",dict:=none,data:=.seq v7 c',slots:=#[]}->ItemsOf (λi v=>∃c u,b[i]?=some c/\v=.int (c.toNat:Int) u) v7 b.size->Q (.ref s.heap.objs.size) {s with heap:=h',toks:=tk}):
  CB (CA prog w) A (call (.type "list") [.bytes b t]) Q E s:=by
 refine JF (Q₁:=λobj td=>obj=.ref s.heap.objs.size/\td={s with heap:=s.heap.push {cls:=.type "list",data:=.seq #[]}}) PySem.F.called_list (PySem.F.typeCall_list_1 _) PySem.F.entry_list_init
  (code_list_new _ ⟨rfl,rfl⟩) λobj td tj=>?_
 obtain⟨rfl,rfl⟩:=tj
 have hS:(s.heap.push {cls:=.type "list",data:=.seq #[]}).get? s.heap.objs.size=some {cls:=.type "list",data:=.seq #[]}:=DA _ rfl
 refine⟨(ae _ hS rfl),PySem.F.args_list_init_2 _ _,?_⟩;show CB _ _ (do let old<-Kb (.ref s.heap.objs.size);M8 (.ref s.heap.objs.size) (λZ=>#[]);letGo old.toList.reverse;HL (.ref s.heap.objs.size) (.bytes b t) .none) _ _ _
 refine wpAny_bind ?_;unfold Kb;refine wpAny_bind (wpAny_seqItems hS rfl (wpAny_pure ?_));show CB _ _ (updateSeq s.heap.objs.size (λZ=>#[])>>=λZ=>letGo (#[]:Array Cy).toList.reverse>>=λZ=>HL (.ref s.heap.objs.size) (.bytes b t) .none) _ _ _;refine wpAny_bind (JV hS rfl ?_);have xD:=Em (GJ (λZ=>(#[]:Array Cy))) hS rfl;refine wpAny_bind (wpAny_letGo ?_);refine ahw (A:=A.in1) hh _ xD hn λh' tk v7 c' hk BE yg=>⟨rfl,hQ h' tk v7 c' (λb o e=>?_) BE yg⟩;exact hk b o (CP (Db e)) ((Ed _ _ (CW (Db e))).trans (C6 _ e))
end
theorem pE{g:AV->Option α}{r:List AV}{ns:List α}(h:jT g (v::r)=some ns):∃x ms,ns=x::ms/\g v=some x/\jT g r=some ms:=by obtain⟨x,e1,h⟩:=FK.mp h;(obtain⟨ms,h1,zq2⟩:=Ek.mp h;clear h;subst zq2);exact(ax x ms rfl e1 h1)
theorem tD.u3:∀{xs:List AV}{tf:List Cy}{ns:List Int},tD B μ xs tf->Internal.u3 xs=some ns->IntsAre tf ns:=by
 intro zi
 induction zi with
 |nil=>
 exact @λZ Z hv h=>by cases h;rw[hv.n];exact .nil
 |cons v r ih=>
 exact @λZ Z hv h=>by
  obtain⟨x,ms,rfl,e,h2⟩:=pE h;obtain⟨_,_,rfl,hv,hs⟩:=hv.c;rcases kz (C:=λr=>r=some x) e with⟨i,rfl,e⟩ |e
  ·clear h;cases e;obtain⟨t,rfl⟩:=hv.i;exact .cons _ t (ih hs h2)
  ·cases e
theorem tD.bools:∀{xs:List AV}{tf:List Cy}{ns:List Bool},tD B μ xs tf->Internal.bools xs=some ns->KJ tf ns:=by
 intro zi
 induction zi with
 |nil=>
 exact @λZ Z hv h=>by cases h;rw[hv.n];exact .nil
 |cons v r ih=>
 exact @λZ Z hv h=>by
  obtain⟨x,ms,rfl,e,h2⟩:=pE h;obtain⟨_,_,rfl,hv,hs⟩:=hv.c;rcases rS (C:=λr=>r=some x) e with⟨i,rfl,e⟩ |e
  ·clear h;cases e;rw[hv.b];exact .cons _ (ih hs h2)
  ·cases e
theorem ahO:∀(ns:List Int)(n:Int),(ns.foldl max n=n\/ns.foldl max n∈ns)/\n<=ns.foldl max n/\∀a∈ns,a<=ns.foldl max n:=by
 intro zi
 induction zi with
 |nil=>
 exact @λn=>⟨.inl rfl,Int.le_refl _,λa h=>by cases h⟩
 |cons x ns ih=>
 exact @λn=>by
  obtain⟨h1,h2,h3⟩:=ih (max n x);rw[EK];refine⟨?_,by exact(DZ (Kq ..) h2),λa ha=>?_⟩
  ·rcases h1 with h1 |h1
   ·rw[h1];rcases Int.le_total n x with q |q
    ·exact .inr (by rw[Ku q];exact Ds)
    ·exact .inl (Int.max_eq_left q)
   ·exact .inr (Dm _ h1)
  ·rcases CR.mp ha with rfl |ha
   ·exact DZ (Kr ..) h2
   ·exact h3 a ha
theorem ahP{n M:Int}(h1:M∈n::ns)(h2:∀a∈n::ns,a<=M):M=ns.foldl max n:=by
 obtain⟨g1,g2,g3⟩:=ahO ns n;apply Int.le_antisymm
 ·rcases CR.mp h1 with rfl |h1
  ·exact g2
  ·exact g3 M h1
 ·rcases g1 with g1 |g1
  ·rw[g1];exact h2 n Ds
  ·exact h2 _ (Dm _ g1)
section
variable {w:CQ}{l:Cz}{vs:List Cy}
theorem ajx(hh:A.handled=none)(hl:s.heap.IsList l vs.toArray)(hi:IntsAre vs ns)(um:0<ns.length)
  (h:∀h' M (t:Tok) tk,(∀b o,s.heap.get? b=some o->h'.get? b=some o)->M∈ns->(∀a,a∈ns->a<=M)->Q (.int M t) {s with heap:=h',toks:=tk}):
  CB (CA prog w) A (call (.builtin "max") [.ref l]) Q E s:=by
 obtain⟨xs,e⟩:=(hi.allInts.items);have yp:ns=xs.toList.map (·.1):=by rw[<-hi.numsOf,<-nums_intItems,<-e]
 have t6:0<xs.size:=by have h3:=um;rw[yp,List.length_map,HE] at h3;exact h3
 rw[e] at hl;refine max_intList hh hl t6 λv h' tk hv hk=>?_;obtain⟨t,rfl⟩:=intItems_at hv;obtain⟨h1,h2⟩:=argBest_gt (numAt xs) (xs.size-1);refine h _ _ t tk hk ?_ λa ha=>?_
 ·rw[yp,numAt_eq];exact getD_mem (by rw[List.length_map,HE];exact Nat.lt_of_le_pred t6 h1)
 ·rw[yp] at ha;(obtain⟨j,hj,zq2⟩:=mem_getD ha;clear ha;subst zq2);rw[List.length_map,HE] at hj;rw[<-numAt_eq];exact h2 j (LB hj)
theorem afi{bs:List Bool}(hh:A.handled=none)(hl:s.heap.IsList l vs.toArray)(hb:KJ vs bs)
  (h:∀h' tk,(∀b o,s.heap.get? b=some o->h'.get? b=some o)->Q (.bool (bs.all id)) {s with heap:=h',toks:=tk}):CB (CA prog w) A (call (.builtin "all") [.ref l]) Q E s:=by
 have xX:l<s.heap.objs.size:=by obtain⟨_,e,_⟩:=hl;exact Db e
 refine call_all_walk (MU hl ?_);refine(dT s.heap.objs.size ([s.heap.objs.size,l]) [s.heap.objs.size] vs.toArray.size _ _ (kg (λi=>(bs[i]?).getD true) rfl (Walks.list (A:=A.in1) hh _ l (CP xX) vs.toArray) ⟨(aI _ (DA _ rfl) rfl rfl),hl.push _⟩ (λi v s' Q' E' hP hQ=>?_) (λh' tk hk=>?_)))
 ·(obtain⟨b,e,zq2⟩:=hb.get i v (by simpa using hP);clear hP;subst zq2);simp only[e,Fo] at hQ;exact ER hQ
 ·have e:((CL vs.toArray.size).all λi=>(bs[i]?).getD true)=bs.all id:=by
   rw[De,hb.length];exact LSm.range_all bs
  rw[e];exact h h' tk (LSm.kept_iter hk)
end
section
variable {c:tG}
theorem s6.ext{a:AV}(P:s6 c s B μ VR (.ok a H:R AV) Q E)(I:Inv c.prog c.w B c.U μ H s.heap){t:Nat}(k:∀b o,s.heap.get? b=some o->h'.get? b=some o)(v:VR B μ a cv):Q cv {s with heap:=h',toks:=t}:=P.now (I.ext k) v
theorem s6.push{a:AV}{o:Obj}(P:s6 c s B μ VR (.ok a H:R AV) Q E)(I:Inv c.prog c.w B c.U μ H s.heap){t:Nat}(ho:(s.heap.push o).get? s.heap.objs.size=some o)
  (v:∀B',B.StaysIn B'->B'.get? s.heap.objs.size=some o->VR B' μ a cv):Q cv {s with heap:=s.heap.push o,toks:=t}:=by
 obtain⟨B',h1,h2,J⟩:=(I.push o).vJ ho I.nextM I.wy;exact P B' μ _ t cv h1 (Pre.refl _) J (v B' h1 h2)
theorem s6.new{o:Obj}{t:Nat}{a:Cz}(P:s6 c s B μ VR (.ok (.ref H.length) (H++[ao]):R AV) Q E)(I:Inv c.prog c.w B c.U μ H s.heap)(k:∀b o,s.heap.get? b=some o->h'.get? b=some o)(ha:s.heap.objs.size<=a)
  (e:h'.get? a=some o) (ho:OR B μ c.prog c.w ao o) (hf:¬d6 o):Q (.ref a) {s with heap:=h',toks:=t}:=
 P B _ _ t _ (λZ Z e=>e) (Pre.snoc _ _) (I.xw k ha e ho hf) (.ref _ _ (kt I.len))
theorem jC{o:Obj}{xs:Array Cy}{n:Nat}(h:o.data=.seq xs n):¬d6 o:=λ⟨vs,q⟩=>by rw[h] at q;cases q
theorem aqr(ns:List Int)(h:(ns.all λn=>decide (0<=n)&&decide (n<256))=true):byteArr ns=(ns.map λn=>CT n.toNat).toArray:=rfl
theorem sy{a b cc:Int}(ha:dq a=true)(hb:dq b=true)(h0:0<cc)(h1:cc<1000):GO a b cc=true:=by
 unfold GO;simp only[dq,Bool.and_eq_true,C3] at ha hb;have hr:El a b cc<=4611686018427387904/\0<=El a b cc:=by
  unfold El;rw[CG (Ks h0)]
  split
  ·rename_i ye
   have h2:=Int.ediv_le_self cc (show(0:Int)<=b-a-1 by exact HR (IT ye));have h3:=Ko (HR (IT ye)) (EJ h0);exact⟨DZ (DZ (Int.add_le_add_right h2 1) (HP (Int.sub_add_cancel ..))) (DZ (Int.sub_le_sub (EJ hb.2) ha.1) (by decide)),DZ h3 (Int.le_add_of_nonneg_right (by decide))⟩
  ·exact am4
 (revert hr;refine gn (El a b cc) λr hr=>?_);have hc:cc>0:=h0;simp only[M9,Bool.and_eq_true,Ez,C3,C9,hc,if_true];have z:(-2^63:Int)<=cc:=DZ (by decide) (EJ h0);exact⟨⟨⟨⟨⟨DZ (by decide) ha.1,Fi ha.2 (by decide)⟩,DZ (by decide) hb.1,Fi hb.2 (by decide)⟩,z,Fi h1 (by decide)⟩,DZ (by decide) hr.2,IQ hr.1 (by decide)⟩,
  .inr ⟨DZ (by decide:(-2^63:Int)<=-2305843009213693952+0) (Int.add_le_add hb.1 (HR h0)),Fi (Int.add_lt_add hb.2 (Int.sub_lt_sub_right h1 1)) (by decide)⟩⟩
theorem aga{b:List UInt8}{acc:Array Cy}(h:ItemsOf (λi v=>∃c u,b.toArray[i]?=some c/\v=.int (Mr c:Int) u) acc b.toArray.size):tD B μ (b.map λc=>.int c.toNat) acc.toList:=by
 obtain⟨h1,h2⟩:=h;have key:∀(b:List UInt8)(l:List Cy),l.length=b.length->(∀(j:Nat)(v:Cy),l[j]?=some v->∃c u,b[j]?=some c/\v=.int (Mr c:Int) u)->tD B μ (b.map λc=>.int c.toNat) l:=by
  intro b
  induction b with
  |nil=>intro l hl _;have:l=[]:=Gw.mp hl;clear hl;subst this;exact .nil
  |cons x b ih=>
   intro l hl hp
   cases l with
   |nil=>simp at hl
   |cons v l=>obtain⟨c,u,g1,g2⟩:=hp 0 v rfl;cases g1;subst g2;exact .cons (.int _ _) (ih l (by simpa using hl) λj v e=>hp (j+1) v (by simpa using e))
 exact key b acc.toList (by simpa using h1) λj v e=>by simpa using h2 j v (by simpa using e)
noncomputable def aqK(f:BI)(tf:List Cy):List Cy:=match f with
 | .isInt=>tf++[.type "int"]
 |_=>tf
theorem ki{n:Nat}(h:n<=al):n<=sizeLine:=h
section
variable {vs:List AV}
theorem afB(I:Inv c.prog c.w B c.U μ H s.heap)(hv:tD B μ vs tf)(P:s6 c s B μ VR (aay H vs) Q E):CB (CA c.prog c.w) A (call (.builtin "len") tf) Q E s:=by
 replace P:=s6.p1 P;obtain⟨v,rfl,P⟩:=P;obtain⟨_,rfl,h⟩:=(hv.o1);replace P:=P.oY;rcases P with⟨b,rfl,P⟩ |P
 ·(obtain⟨t,zq1,hl⟩:=(h.y);clear h hv;subst zq1);rw[dN] at hl;refine EH (by rw[De];exact am5 hl) ?_;rw[De];exact P.now I (.int _ _)
 replace P:=P.oL;rcases P with⟨p,xs,rfl,hp,P⟩ |P
 ·(obtain⟨a,zq1,ha⟩:=(h.r);clear h hv;subst zq1);obtain⟨cv,n,h1,h2,h3⟩:=I.list ha hp;rw[<-h2.length,dN] at h3;rw[<-h2.length] at P;refine call_len_list (cH h1) (by rw[De];exact C2.mpr (Nat.lt_of_le_of_lt h3 (by decide))) ?_;rw[De];exact P.now I (.int _ _)
 replace P:=P.oT;rcases P with⟨xs,rfl,P⟩ |P
 ·obtain⟨xX,P⟩:=P.pQ;clear hv;obtain⟨a,cv,rfl,hb,hv⟩:=h.t;rw[<-hv.length] at P xX;refine len_tuple (jz (I.base _ _ hb)) (by rw[De];exact C2.mpr (CM xX (by decide))) ?_;rw[De];exact P.now I (.int _ _)
 replace P:=P.pF;obtain⟨ns,rfl,P⟩:=P;(obtain⟨a,cv,zq2,zq3,hi,hl⟩:=(h.f);clear h hv;subst zq2;obtain⟨o,e,q⟩:=zq3);rw[<-rg hi,dN] at hl;rw[<-rg hi] at P;refine call_len_list (ae o (I.base _ _ e) q) (by rw[De];exact C2.mpr (Nat.lt_of_le_of_lt hl (by decide))) ?_;rw[De];exact P.now I (.int _ _)
theorem afz(I:Inv c.prog c.w B c.U μ H s.heap)(hv:tD B μ vs tf)(P:s6 c s B μ VR (aaw H vs) Q E):CB (CA c.prog c.w) A (call (.type "int") tf) Q E s:=by
 replace P:=s6.p1 P;obtain⟨v,rfl,P⟩:=P;obtain⟨_,rfl,h⟩:=(hv.o1);replace P:=P.oB;rcases P with⟨b,rfl,P⟩ |P
 ·rw[h.b];exact call_int_bool (P.now I (.int _ _))
 replace P:=P.pI;obtain⟨i,rfl,P⟩:=P;clear hv;obtain⟨_,rfl⟩:=h.i;exact call_int_int (P.now I (.int _ _))
theorem afx(hh:A.handled=none)(I:Inv c.prog c.w B c.U μ H s.heap)(hv:tD B μ vs tf)(P:s6 c s B μ VR (aav H vs) Q E):CB (CA c.prog c.w) A (call (.type "bytes") tf) Q E s:=by
 replace P:=s6.p1 P;obtain⟨v,rfl,P⟩:=P;obtain⟨_,rfl,h⟩:=(hv.o1);replace P:=P.oY;rcases P with⟨b,rfl,P⟩ |P
 ·(obtain⟨t,zq1,hl⟩:=(h.y);clear h hv;subst zq1);exact agm (P.now I (.bytes _ _ hl))
 replace P:=P.pL;obtain⟨p,xs,rfl,hp,P⟩:=P;replace P:=P.pO;obtain⟨ns,hn,P⟩:=P;obtain⟨hr,P⟩:=P.pQ;(obtain⟨a,zq1,ha⟩:=(h.r);clear h hv;subst zq1);obtain⟨cv,n,h1,h2,h3⟩:=I.list ha hp;have hi:=h2.u3 hn;have hl:=rg hi;rw[<-h2.length] at h3;refine call_bytes_ints (cH h1) hi (λn hm=>by simpa using CV.mp hr n hm) (ki h3) hh λh' t k hk=>?_;rw[aqr ns hr];exact P.ext I hk (.bytes _ _ (by rw[List.length_map,<-hl];exact h3))
theorem afC(hh:A.handled=none)(I:Inv c.prog c.w B c.U μ H s.heap)(hv:tD B μ vs tf)(P:s6 c s B μ VR (aaz H vs) Q E):CB (CA c.prog c.w) A (call (.type "list") tf) Q E s:=by
 replace P:=s6.p1 P;obtain⟨v,rfl,P⟩:=P;obtain⟨_,rfl,h⟩:=(hv.o1);replace P:=P.oY;rcases P with⟨b,rfl,P⟩ |P
 ·(obtain⟨t,zq1,hl⟩:=(h.y);clear h hv;subst zq1);refine agn hh (by rw[De];exact ki hl) λh' tk v7 c' hk hD yg=>?_;exact P.new I hk (Nat.le_refl _) hD (ax v7.toList c' (by simp) (aga yg) (by rw[List.length_map];exact hl)) (jC rfl)
 replace P:=P.pL;obtain⟨p,xs,rfl,hp,P⟩:=P;(obtain⟨a,zq1,ha⟩:=(h.r);clear h hv;subst zq1);obtain⟨cv,n,h1,h2,h3⟩:=I.list ha hp;refine call_list_seq a (.inl rfl) h1 rfl rfl (λh' c' hk hD=>?_) (by rw[De,h2.length];exact ki h3);exact P.new I hk (Nat.le_refl _) hD (ax cv c' rfl h2 h3) (jC rfl)
theorem afD(hh:A.handled=none)(I:Inv c.prog c.w B c.U μ H s.heap)(hv:tD B μ vs tf)(P:s6 c s B μ VR (aaA H vs) Q E):CB (CA c.prog c.w) A (call (.builtin "max") tf) Q E s:=by
 replace P:=s6.p1 P;obtain⟨v,rfl,P⟩:=P;obtain⟨_,rfl,h⟩:=(hv.o1);replace P:=P.pL;obtain⟨p,xs,rfl,hp,P⟩:=P;replace P:=P.pO;obtain⟨ns,hn,P⟩:=P;(obtain⟨a,zq1,ha⟩:=(h.r);clear h hv;subst zq1);obtain⟨cv,n,h1,h2,h3⟩:=I.list ha hp
 cases ns with
 |nil=>exact P.elim
 |cons n ns=>refine ajx hh (cH h1) (h2.u3 hn) (FI _) λh' M t tk hk hm hle=>?_;rw[ahP hm hle];exact P.ext I hk (.int _ _)
theorem afE(hh:A.handled=none)(I:Inv c.prog c.w B c.U μ H s.heap)(hv:tD B μ vs tf)(P:s6 c s B μ VR (aaB H vs) Q E):CB (CA c.prog c.w) A (call (.builtin "min") tf) Q E s:=by replace P:=s6.p2 P;obtain⟨v,w,rfl,P⟩:=P;obtain⟨_,_,rfl,h,h'⟩:=(hv.o2);replace P:=P.pI;obtain⟨x,rfl,P⟩:=P;obtain⟨t,rfl⟩:=h.i;replace P:=P.pI;obtain⟨y,rfl,P⟩:=P;clear hv;obtain⟨u,rfl⟩:=h'.i;refine min_two_ints hh λh' tk hk=>?_;exact P.ext I hk (by split<;>exact .int _ _)
theorem afw(hh:A.handled=none)(I:Inv c.prog c.w B c.U μ H s.heap)(hv:tD B μ vs tf)(P:s6 c s B μ VR (pM H vs) Q E):CB (CA c.prog c.w) A (call (.builtin "all") tf) Q E s:=by replace P:=s6.p1 P;obtain⟨v,rfl,P⟩:=P;obtain⟨_,rfl,h⟩:=(hv.o1);replace P:=P.pL;obtain⟨p,xs,rfl,hp,P⟩:=P;replace P:=P.pO;obtain⟨bs,hn,P⟩:=P;(obtain⟨a,zq1,ha⟩:=(h.r);clear h hv;subst zq1);obtain⟨cv,n,h1,h2,h3⟩:=I.list ha hp;exact afi hh (cH h1) (h2.bools hn) λh' tk hk=>P.ext I hk (.bool _)
theorem afA(I:Inv c.prog c.w B c.U μ H s.heap)(hv:tD B μ vs tf)(P:s6 c s B μ VR (aax H vs) Q E):CB (CA c.prog c.w) A (call (.builtin "isinstance") (tf++[.type "int"])) Q E s:=by replace P:=s6.p1 P;obtain⟨v,rfl,P⟩:=P;obtain⟨_,rfl,h⟩:=(hv.o1);replace P:=P.pI;obtain⟨i,rfl,P⟩:=P;clear hv;obtain⟨_,rfl⟩:=h.i;exact IsiPair.int_int (P.now I (.bool _))
theorem afI(I:Inv c.prog c.w B c.U μ H s.heap)(hv:tD B μ vs tf)(P:s6 c s B μ VR (aaD H vs) Q E):CB (CA c.prog c.w) A (call (.type "str") tf) Q E s:=by
 replace P:=s6.p1 P;obtain⟨v,rfl,P⟩:=P;obtain⟨_,rfl,h⟩:=(hv.o1);replace P:=P.pI;obtain⟨i,rfl,P⟩:=P;clear hv;obtain⟨_,rfl⟩:=h.i;obtain⟨hi,P⟩:=P.pQ;refine PySem.P.str_of_int ?_ (P.now I (.str _ _))
 by_cases h0:i.natAbs=0
 ·rw[h0];decide
 ·exact(LF h0).mpr (Nat.lt_of_lt_of_le hi (by decide+kernel))
theorem afG(I:Inv c.prog c.w B c.U μ H s.heap)(hv:tD B μ vs tf)(P:s6 c s B μ VR (aaC H vs) Q E):CB (CA c.prog c.w) A (call (.type "range") tf) Q E s:=by
 replace P:=s6.pC P;obtain⟨v,r,rfl,P⟩:=P;obtain⟨_,cs,rfl,h,hs⟩:=(hv.c);replace P:=P.pI;obtain⟨a,rfl,P⟩:=P;obtain⟨t,rfl⟩:=h.i;replace P:=P.o0;rcases P with⟨rfl,P⟩ |P
 ·rw[hs.n];obtain⟨hb,P⟩:=P.pQ;exact call_range_1 (P.push I (DA _ rfl) λB' Z e=>.uP _ _ _ _ _ _ _ e (sy (by decide) hb (by decide) (by decide)) (by decide))
 replace P:=P.pC;obtain⟨v,r,rfl,P⟩:=P;obtain⟨_,cs,rfl,g,gs⟩:=(hs.c);replace P:=P.pI;obtain⟨b,rfl,P⟩:=P;obtain⟨u,rfl⟩:=g.i;replace P:=P.o0;rcases P with⟨rfl,P⟩ |P
 ·rw[gs.n];obtain⟨hb,P⟩:=P.pQ;rw[Bool.and_eq_true] at hb;exact call_range_2 (P.push I (DA _ rfl) λB' Z e=>.uP _ _ _ _ _ _ _ e (sy hb.1 hb.2 (by decide) (by decide)) (by decide))
 replace P:=P.p1;obtain⟨v,rfl,P⟩:=P;obtain⟨_,rfl,k⟩:=(gs.o1);replace P:=P.pI;obtain⟨d,rfl,P⟩:=P;clear gs hs hv;obtain⟨u',rfl⟩:=k.i;obtain⟨hb,P⟩:=P.pQ;simp only[Bool.and_eq_true,C3] at hb;obtain⟨⟨⟨h1,h2⟩,h3⟩,h4⟩:=hb;exact call_range_3 (HQ h3) (P.push I (DA _ rfl) λB' Z e=>.uP _ _ _ _ _ _ _ e (sy h1 h2 h3 h4) h3) (.inl (L2 (C2.mp (IQ (HP (Kw (EJ h3))) (Fi h4 (by decide))))))
end
theorem adV(hh:A.handled=none)(I:Inv c.prog c.w B c.U μ H s.heap)(f:BI){vs:List AV}(hv:tD B μ vs tf)(P:s6 c s B μ VR (cT H f vs) Q E):
  CB (CA c.prog c.w) A (call (lA f) (aqK f tf)) Q E s:=by
 cases f with
 |len=>exact afB I hv P
 |int=>exact afz I hv P
 |bytes=>exact afx hh I hv P
 |list=>exact afC hh I hv P
 |bytearray=>exact P.elim
 |max=>exact afD hh I hv P
 |min=>exact afE hh I hv P
 |all=>exact afw hh I hv P
 |isInt=>exact afA I hv P
 |str=>exact afI I hv P
 |range=>exact afG I hv P
end
section
open PySem.Builtin
namespace JB
theorem slot:Slot "bytes" "join" "bytes.join":=
 .of (owner:="bytes") (n:="join") (by rw[Ew,Ev];kernel_rfl) (by decide+kernel) (by decide+kernel) (by decide+kernel)
  (by first |exact .inl (by decide+kernel) |exact .inr (by decide+kernel)) (by rw[It];kernel_rfl)
theorem entry:entryFor table "bytes.join"=some Builtin.«bytes.join»:=JJ (by kernel_rfl)
theorem args(a b:Cy):argsOk "bytes.join" ⟨[a,b],[]⟩:=by unfold argsOk;kernel_rfl
theorem type_eq:typeOf (.builtin "bytes.join")=pure (.type "method_descriptor"):=by show builtinType _=_;rw[Mw];kernel_rfl
theorem lS:typeLookup (.type "bytes") "__buffer__"=pure (some (.builtin "bytes.__buffer__")):=by rw[Ew,Ev];kernel_rfl
theorem aj1:typeLookup (.type "bytes") "__release_buffer__"=pure none:=by rw[Ew,Ev];kernel_rfl
theorem sub_self:isSubtype (.type "bytes") (.type "bytes")=pure true:=by rw[It];kernel_rfl
inductive yF:List Cy->List (List UInt8)->Prop
 |nil:yF [] []
 |cons (b:List UInt8) (t:Tok) {vs:List Cy} {bs:List (List UInt8)}:yF vs bs->yF (.bytes b.toArray t::vs) (b::bs)
theorem yF.get{vs:List Cy}{bs:List (List UInt8)}(h:yF vs bs):∀{i:Nat}{b:List UInt8},bs[i]?=some b->∃t,vs[i]?=some (.bytes b.toArray t):=by
 induction h with
 |nil=>intro i b e;cases e
 |cons b t h ih=>
  intro i b' e
  cases i with
  |zero=>cases e;exact⟨t,rfl⟩
  |succ i=>exact ih e
theorem yF.len{vs:List Cy}{bs:List (List UInt8)}(h:yF vs bs):vs.length=bs.length:=by
 induction h with
 |nil=>rfl
 |cons _ _ h ih=>exact CH (·+1) ih
section
variable {w:CQ}
theorem aee{b:Array UInt8}{Q:Bool->CC->Prop}(h:Q true s):CB (CA prog w) A (Bytes.slotIsOwn (.bytes b t) "__buffer__") Q E s:=by
 unfold Bytes.slotIsOwn;refine wpAny_bind (DM (DL s b t) lS ?_);refine DF (by decide+kernel) ?_
 rw[show("bytes.__buffer__".dropRight (("__buffer__":String).length+1))="bytes" from by decide+kernel]
 exact GN (DL s b t) sub_self h
theorem aot{b:Array UInt8}{Q:Bool->CC->Prop}(h:Q false s):CB (CA prog w) A (Bytes.ownRelease (.bytes b t)) Q E s:=by unfold Bytes.ownRelease Bytes.slotIsOwn;refine wpAny_bind (wpAny_bind (DM (DL s b t) aj1 ?_));exact wpAny_pure (wpAny_pure h)
theorem aqh{id:String}{b:Array UInt8}{Q:Option (Array UInt8×Option Cy)->CC->Prop}(h:Q (some (b,none)) s):
  CB (CA prog w) A (Bytes.takeBufferQuiet? id (.bytes b t) 0) Q E s:=by
 unfold Bytes.takeBufferQuiet?;refine wpAny_bind (JP ?_);unfold Bytes.takeBuffer?;refine wpAny_bind (DM (DL s b t) lS ?_);refine wpAny_bind (aee ?_);refine DF rfl ?_;refine wpAny_bind (DM (DL s b t) lS ?_);refine wpAny_bind ?_;unfold Bytes.buffer?;refine wpAny_bind (DM (DL s b t) lS ?_);refine wpAny_bind (aee ?_);refine DF rfl ?_;refine wpAny_bind (DM (DL s b t) lS ?_);refine wpAny_bind (aot ?_);refine DF rfl ?_;refine wpAny_bind (C4 rfl ?_);exact wpAny_pure (wpAny_pure (wpAny_pure h))
def Plain(taken:List (Cy×Option Cy)):Prop:=∀x∈taken,x.1.onHeap=false/\x.2=none
theorem Plain.any{taken:List (Cy×Option Cy)}(h:Plain taken):(taken.any λx=>x.1.onHeap)=false:=by rw[HU];intro x hx;rw[(h x hx).1];exact HJ
theorem Plain.snoc{taken:List (Cy×Option Cy)}(h:Plain taken){b:Array UInt8}:Plain (taken++[(.bytes b t,none)]):=by
 intro x hx;rcases DJ.mp hx with hx |hx
 ·exact h x hx
 ·rw[DD.mp hx];exact⟨rfl,rfl⟩
theorem Plain.letGo{keep:List Cy}{Q:Unit->CC->Prop}:∀{taken:List (Cy×Option Cy)},Plain taken->Q () s->CB (CA prog w) A (Bytes.joinLetGo taken keep) Q E s:=by
 intro zi
 induction zi with
 |nil=>
 exact @λZ h=>wpAny_pure h
 |cons zp rest ih=>
 obtain⟨x,y⟩:=zp;exact @λhp h=>by have:=(hp (x,y) Ds).2;dsimp only at this;subst this;exact wpAny_bind (wpAny_letGo (ih (λz hz=>hp z (Dm _ hz)) h))
theorem acm(sep:List UInt8):∀bs:List (List UInt8),(ct sep bs).length=sep.length*(bs.length-1)+(bs.map DI).sum
 |[]=>rfl
 |[x]=>by show x.length=sep.length*0+(x.length+0);rw[Ip,EO,Il]
 |x::y::r=>by rw[show ct sep (x::y::r)=x++sep++ct sep (y::r) from rfl,List.length_append,List.length_append,acm sep (y::r)];simp only[Dc,DS,List.sum_cons];rw[show r.length+1+1-1=(r.length+1-1)+1 by exact am8,LL];exact am9
theorem ap9(sep:List UInt8)(bs:List (List UInt8))(_h:0<bs.length):JX (λx1 x2:_=>x1+x2.size) (sep.toArray.size*(((bs.map Da).toArray).size-1)) (bs.map Da).toArray=(ct sep bs).length:=by
 rw[acm,List.foldl_toArray']
 ·simp only[De,List.length_map];refine gn (sep.length*(bs.length-1)) λn=>?_
  induction bs generalizing n with
  |nil=>rfl
  |cons b bs ih=>
   have ih':∀n,GZ (λx1 (x2:Array UInt8)=>x1+x2.size) n (bs.map Da)=n+(bs.map DI).sum:=by
    intro n;clear ih
    induction bs generalizing n with
    |nil=>rfl
    |cons c cs ih=>rw[DS,EK,ih (by simp)];simp;exact adw
   rw[DS,EK,ih'];simp;exact adw
 ·rfl
theorem aiS(sep:List UInt8)(bs:List (List UInt8)):Bytes.joined sep.toArray (bs.map Da)=(ct sep bs).toArray:=by
 unfold Bytes.joined;have j:∀x y r,ct sep (x::y::r)=x++sep++ct sep (y::r):=λ_ _ _=>rfl;have j1:∀x,ct sep [x]=x:=λ_=>rfl;have key:∀(bs:List (List UInt8))(acc:List UInt8)(i:Nat),0<i->(((bs.map Da).zipIdx i).foldl (λout (x:Array UInt8×Nat)=>(if x.2>0 then out++sep.toArray else out)++x.1) acc.toArray)=(acc++(match bs with |[]=>[] |b::r=>sep++ct sep (b::r))).toArray:=by
  intro bs
  induction bs with
  |nil=>intro acc i _;simp
  |cons b r ih=>
   intro acc i hi;rw[DS,Lj,EK];dsimp only;rw[CG hi];have:(acc.toArray++sep.toArray++b.toArray)=(acc++sep++b).toArray:=by simp
   rw[this,ih _ (i+1) (Nat.add_pos_left hi 1)]
   cases r with
   |nil=>simp[j1]
   |cons c r=>simp[j]
 cases bs with
 |nil=>rfl
 |cons b r=>
  rw[DS,Lj,EK];dsimp only;rw[CJ (DX 0)];have:((#[]:Array UInt8)++b.toArray)=b.toArray:=by simp
  rw[this,key r b 1 EZ]
  cases r with
  |nil=>simp[j1]
  |cons c r=>simp[j]
theorem arQ{sep:List UInt8}{a:Cz}{n:Nat}{bs:List (List UInt8)}(h1:s.heap.get? a=some {cls:=.type "list",data:=.seq (Da tf) n})(hb:yF tf bs)
  (yD:2<=bs.length) (t6:(ct sep bs).length<=al) (hq:∀t' k,Q (.bytes (ct sep bs).toArray t') {s with toks:=k}):
  CB (CA prog w) A (call (.builtin "bytes.join") [.bytes sep.toArray t,.ref a]) Q E s:=by
 refine Ix slot (DL _ _ _) entry ?_ (args _ _);unfold Builtin.«bytes.join» Bytes.joinM;refine wpAny_bind (C4 rfl ?_);refine wpAny_bind ?_;show CB _ _ (Bytes.joinItems (.ref a)) _ _ _;unfold Bytes.joinItems;refine wpAny_bind (Iz (ae _ h1 rfl) ?_);refine GL rfl ?_;refine wpAny_pure ?_;have yU:∀{A:Around}{E:Cy->CC->Prop}{Q:Option (Array Cy)->CC->Prop}{k:Nat},Q (some tf.toArray) {s with toks:=k}->CB (CA prog w) A (seqItems? (.ref a)) Q E {s with toks:=k}:=by intro A E Q k h;unfold seqItems?;exact wpAny_bind (Gg h1 (wpAny_pure h))
 refine wpAny_bind (yU ?_);refine GL rfl ?_;obtain⟨c1,c2,r,rfl⟩:∃c1 c2 r,tf=c1::c2::r:=by
  have:=hb.len
  cases tf with
  |nil=>simp at this;exact(ana yD this).elim
  |cons c1 tf=>cases tf with
   |nil=>simp at this;exact(anb yD this).elim
   |cons c2 r=>exact(nG _ _ _ rfl)
 dsimp only;refine wpAny_bind ?_;rw[Mp];have hlen:=hb.len;refine MN _ (λrest st s'=>s'=s/\∃d,rest=List.range' d (bs.length-d)/\d<=bs.length/\st.1=((bs.take d).map Da).toArray/\Plain st.2) _ ?_ ?_ _ _ (acd rfl 0 ?_ (DY _) (by simp) (by simp[Plain]))
 ·intro x rest st s' zr4;refine q8 λG kG=>?_;refine o_aeaaa zr4 λes d hr hd hp ht=>?_;have yO:d<bs.length:=by
   apply Ei hd;intro e;rw[e,FH] at hr;cases hr
  refine o_e (⟨bs.length-d-1,by exact((Jt (E0 yO)).symm)⟩:∃m,bs.length-d=m+1) λm hm=>?_;rw[hm,List.range'_succ] at hr;clear hd;obtain⟨rfl,er⟩:=GW hr;refine o_e (hb.get (List.getElem?_eq_getElem yO)) λtk hx=>?_;have yP:(c1::c2::r).toArray.getD x Dh=.bytes (bs[x]).toArray tk:=by
   rw[Array.getD_eq_getD_getElem?];have:(c1::c2::r).toArray[x]?=some (.bytes (bs[x]).toArray tk):=by simpa using hx
   rw[this];rfl
  have hn:(Bytes.Kind.bytes==Bytes.Kind.bytearray||st.2.any λx=>x.1.onHeap)=false:=by rw[ht.any];rfl
  refine kG ?_;clear hq h1 zr4 kG hr;subst es er;refine wpAny_bind (yU ?_);dsimp only;rw[yP];refine DF hn ?_;refine wpAny_bind (Dv (aqh ?_));dsimp only;refine wpAny_bind (yU ?_);refine DF (by simp) ?_;refine wpAny_pure (acd rfl (x+1) (by rw[show bs.length-(x+1)=m by exact anc hlen yO hm]) yO ?_ ht.snoc);rw[hp,EW,List.getElem?_eq_getElem yO,Dr];show _=(Ib Da (bs.take x)++[bs[x].toArray]).toArray;exact Ig _ _
 ·intro st s' xZ;refine q8 λG kG=>?_;refine o_aeaaa xZ λes d hr hd hp ht=>?_;have yO:d=bs.length:=by
   have:=CH DI hr;simp at this;exact Hg hd (Lx this.symm)
  rw[yO,Fz] at hp;refine kG ?_;obtain⟨parts,taken⟩:=st;clear h1 yU xZ kG;subst es hp;refine wpAny_bind (C4 rfl ?_);have hj:=aiS sep bs;refine DF (by rw[ap9 sep bs (LY yD)];unfold Bytes.tooLong;rw[fF,FN];rw[dN] at t6;exact Ep.mpr t6) ?_;rw[List.toList_toArray,hj];refine wpAny_bind (JS ?_ (by rw[De,fF];rw[dN] at t6;exact adx t6));refine wpAny_bind (Dv (JU ?_));refine wpAny_bind (ht.letGo ?_);exact wpAny_pure (ae _ rfl (hq _ _))
 ·rw[<-hlen];simp
end
end JB
end
section
open PySem.Builtin PySem.Builtin._codecs
namespace EN
section
variable {w:CQ}
theorem aoB(self:Cy)(x:Str):encodeRoad "str.encode" self x (Et "ascii") none=(do mkBytes (<-encodeNarrow "str.encode" asciiCodec none self x)):=by
 unfold encodeRoad
 rw[show(normalName (Et "ascii")).toString="ascii" from by decide+kernel]
 first |rfl |kernel_rfl
theorem ahe(xs:List Nat):JX (λ(acc:Array UInt8) y=>acc++(asciiCodec.bytesOf y).toArray) #[] xs.toArray=(xs.map CT).toArray:=by
 rw[List.foldl_toArray];have key:∀(xs:List Nat)(acc:List UInt8),GZ (λ(acc:Array UInt8) y=>acc++(asciiCodec.bytesOf y).toArray) acc.toArray xs=(acc++xs.map CT).toArray:=by
  intro xs
  induction xs with
  |nil=>intro acc;simp
  |cons x xs ih=>
   intro acc;rw[EK];have:(acc.toArray++(asciiCodec.bytesOf x).toArray)=(acc++[CT x]).toArray:=by show acc.toArray++[x.toUInt8].toArray=_;simp
   rw[this,ih];simp
 have:=key xs []
 simpa using this
theorem ajU{Q:Array UInt8->CC->Prop}(hx:(x.cps.toList.all λc=>decide (c<128))=true)(t6:x.cps.size<=sizeLine)(hq:Q (x.cps.toList.map CT).toArray s):
  CB (CA prog w) A (encodeNarrow "str.encode" asciiCodec none self x) Q E s:=by
 unfold encodeNarrow;refine wpAny_bind ?_;rw[Mp];have asv:∀c∈x.cps.toList,asciiCodec.bad c=false:=λc hc=>by have:=CV.mp hx c hc;simp only[C3] at this;show decide (c>=128)=false;rw[FN];exact Nat.not_le_of_lt this
 have as5:((x.cps.toList.map CT).toArray).size<=sizeLine:=by simpa using t6
 refine MN _ (λrest st s'=>s'=s/\((st=(0,#[],{})/\rest.length=x.cps.size)\/st=(x.cps.size,(x.cps.toList.map CT).toArray,{}))) _ ?_ ?_ _ _ ⟨rfl,.inl ⟨rfl,by simp[Str.length]⟩⟩
 ·rintro y rest st s' ⟨rfl,h⟩;rcases h with⟨rfl,hl⟩ |rfl
  ·have h0:0<x.cps.size:=by rw[<-hl];simp
   dsimp only;rw[CJ (show ¬((#[]:Array UInt8).size>sizeLine) from by simp)];rw[JY h0];dsimp only;have hb0:asciiCodec.bad x.cps[0]=false:=asv _ (by simp);refine GL (by rw[hb0];rfl) ?_;have hex:x.cps.extract 0 x.cps.size=x.cps:=by simp
   have AS:Array.findIdx? asciiCodec.bad (x.cps.extract 0 x.cps.size)=none:=by rw[hex,Array.findIdx?_eq_none_iff];intro c hc;rw[asv c (by simpa using hc)]
   rw[AS,hex];dsimp only[Option.getD];rw[hex];refine wpAny_pure ⟨rfl,.inr ?_⟩;have:=ahe x.cps.toList;rw[J3] at this;rw[this,EO]
  ·dsimp only;rw[CJ (Ep.mpr as5)];rw[JZ (Nat.le_refl _)];exact wpAny_pure (wpAny_pure hq)
 ·rintro st s' ⟨rfl,h⟩;rcases h with⟨rfl,hl⟩ |rfl
  ·have:x.cps=#[]:=by
    have:x.cps.size=0:=hl.symm;exact Array.size_eq_zero_iff.mp this
   rw[this] at hq;exact wpAny_pure hq
  ·exact wpAny_pure hq
theorem arA(hx:(x.cps.toList.all λc=>decide (c<128))=true)(t6:x.cps.size<=sizeLine)(hq:∀t' k,Q (.bytes (x.cps.toList.map CT).toArray t') {s with toks:=k}):
  CB (CA prog w) A (call (.builtin "str.encode") [.str x t,.str (Et "ascii") u]) Q E s:=by
 refine Ix F.slot_str_encode (typeIs_str _ _ _) F.entry_str_encode ?_ (F.args_str_encode_2 _ _);unfold Builtin.«str.encode»;refine wpAny_bind (C4 rfl ?_)
 refine wpAny_bind (C4 (a:= [some (.str (Et "ascii") u),none]) (by kernel_rfl) ?_)
 refine wpAny_bind (C4 (a:=some (Et "ascii")) (by kernel_rfl) ?_)
 refine wpAny_bind (C4 (a:=none) (by kernel_rfl) ?_)
 rw[show((some (Et "ascii")).getD (Et "utf-8"))=Et "ascii" from rfl,aoB]
 refine wpAny_bind (wpAny_bind (ajU hx t6 ?_));exact JS (wpAny_pure (ae _ rfl (hq _ _))) (by simpa using t6)
end
end EN
end
noncomputable def mId:MT->String
 | .append=>"list.append" | .pop=>"list.pop" | .tZ=>"int.bit_length" | .toBytes=>"int.to_bytes" | .encode=>"str.encode" | .get=>"dict.get" | .join=>"bytes.join"
section
variable {c:tG}
theorem aiJ(I:Inv c.prog c.w B c.U μ H s.heap)(G:uk c.prog c.w B)(hk:k=3\/k=4\/k=5):s.TypeIs (.ref (ee k)) "dict"/\(∀b,Di (ee k)=.ref b->∃ob,s.heap.get? b=some ob/\ob.dict=none):=by
 rcases hk with rfl |rfl |rfl
 ·obtain⟨kvs,h1,_⟩:=G.tabI 3 (.inl rfl);have h:=h1.keep I.base;exact⟨h.mapOf.typeIs,h.mapOf.noDict⟩
 ·obtain⟨kvs,h1,_⟩:=G.tabI 4 (.inr rfl);have h:=h1.keep I.base;exact⟨h.mapOf.typeIs,h.mapOf.noDict⟩
 ·obtain⟨kvs,h1,_⟩:=G.tabS;have h:=h1.keep I.base;exact⟨h.mapOf.typeIs,h.mapOf.noDict⟩
theorem ah1{x:Str}{Q:Cy×List Cy->CC->Prop}(hq:Q (.builtin "str.encode",[.str x t]) s):CB M A (getMethod (.str x t) (Et "encode") pl) Q E s:=by refine Gd (typeIs_str s x t) PySem.F.plainAttrs_str PySem.F.slot_str_encode PySem.F.type_str_encode ?_ hq;intro a e;cases e
theorem ao0{Q:Cy×List Cy->CC->Prop}(I:Inv c.prog c.w B c.U μ H s.heap)(G:uk c.prog c.w B){m:MT}{x:AV}(vx:VR B μ x cx)(h:lX H m x=true)(hq:Q (.builtin (mId m),[cx]) s):
  CB (CA c.prog c.w) A (getMethod cx (lY m) pl) Q E s:=by
 cases m with
 |append=>(refine o_eeaa ((oo (C:=λb=>b=true) h).resolve_right nofun) λp xs zq2 hx Z=>?_;clear h;subst zq2);(obtain⟨a,zq1,ha⟩:=(vx.r);clear vx;subst zq1);obtain⟨tf,n,h1,_⟩:=I.list ha hx;exact Gd (ae _ h1 rfl) L9 JA PySem.F.type_list_append (λb e=>by cases e;exact(ae _ h1 rfl)) hq
 |pop=>(refine o_eeaa ((oo (C:=λb=>b=true) h).resolve_right nofun) λp xs zq2 hx Z=>?_;clear h;subst zq2);(obtain⟨a,zq1,ha⟩:=(vx.r);clear vx;subst zq1);obtain⟨tf,n,h1,_⟩:=I.list ha hx;exact Gd (ae _ h1 rfl) L9 Mb PySem.F.type_list_pop (λb e=>by cases e;exact(ae _ h1 rfl)) hq
 |tZ=>(refine o_ea ((kz (C:=λb=>b=true) h).resolve_right nofun) λi zq1 Z=>?_;clear h;subst zq1);obtain⟨_,rfl⟩:=vx.i;exact getMethod_int_bit_length hq
 |toBytes=>(refine o_ea ((kz (C:=λb=>b=true) h).resolve_right nofun) λi zq1 Z=>?_;clear h;subst zq1);obtain⟨_,rfl⟩:=vx.i;exact KTBy.method hq
 |encode=>(refine o_ea ((ou (C:=λb=>b=true) h).resolve_right nofun) λi zq1 Z=>?_;clear h;subst zq1);obtain⟨_,rfl⟩:=vx.s;exact ah1 hq
 |get=>
  rcases rU (C:=λb=>b=true) h with⟨k,rfl,h⟩ |h
  ·obtain rfl:=vx.d.1;obtain⟨h1,h2⟩:=aiJ I G (Do h);exact Gd h1 L8 Hq Md h2 hq
  ·(refine o_eeaa ((rT (C:=λb=>b=true) h).resolve_right nofun) λp es zq2 hp Z=>?_;clear h;subst zq2);(obtain⟨a,zq1,ha⟩:=(vx.r);clear vx;subst zq1);obtain⟨kvs,h1,_⟩:=I.dict ha hp;exact Gd h1.mapOf.typeIs L8 Hq Md h1.mapOf.noDict hq
 |join=>
  (refine o_ea ((mi (C:=λb=>b=true) h).resolve_right nofun) λi zq1 Z=>?_;clear h;subst zq1);(obtain⟨_,zq1,_⟩:=(vx.y);clear vx;subst zq1)
  exact Gd (id:="bytes.join") (DL _ _ _) FB.plainAttrs_bytes JB.slot JB.type_eq (λb e=>nomatch e) hq
theorem tD.uB:∀{xs:List AV}{tf:List Cy}{ns:List (List UInt8)},tD B μ xs tf->Internal.uB xs=some ns->JB.yF tf ns:=by
 intro zi
 induction zi with
 |nil=>
 exact @λZ Z hv h=>by cases h;rw[hv.n];exact .nil
 |cons v r ih=>
 exact @λZ Z hv h=>by
  obtain⟨x,ms,rfl,e,h2⟩:=pE h;obtain⟨_,_,rfl,hv,hs⟩:=hv.c;rcases mi (C:=λr=>r=some x) e with⟨i,rfl,e⟩ |e
  ·clear h;cases e;obtain⟨t,rfl,_⟩:=hv.y;exact .cons _ t (ih hs h2)
  ·cases e
theorem tD.dropLast(h:tD B μ vs cs):tD B μ vs.dropLast cs.dropLast:=by rw[KL,KL,h.length];exact h.take
theorem s6.upd{i:Nat}{a:Cz}(P:s6 c s B μ VR (.ok v (H.set i ao):R AV) Q E)(I:Inv c.prog c.w B c.U μ H s.heap)(hi:μ[i]?=some a)
  (hs:Dz a s.heap h') (e:h'.get? a=some ob) (ho:OR B μ c.prog c.w ao ob) (hf:¬d6 ob) (hv:VR B μ v cv) (t:Nat):Q cv {s with heap:=h',toks:=t}:=
 P.now (I.upd hi hs e ho hf) hv
theorem sI{K:Type}[DecidableEq K][BEq K][LawfulBEq K]{es:List (K×AV)}{kvs:List (K×Cy)}{k:K}{d:AV}{cd:Cy}(h1:kvs.map (·.1)=es.map (·.1))(h2:tD B μ (es.map (·.2)) (kvs.map (·.2)))(hd:VR B μ d cd):
  VR B μ (((es.find? λe=>e.1==k).map (·.2)).getD d) ((valueAt kvs k).getD cd):=by
 cases q:(es.find? λe=>e.1==k) with
 |none=>rw[aqg h1 q];exact hd
 |some e=>obtain⟨cv,h3,h4⟩:=sJ h1 h2 (by rw[q];rfl);rw[h3];exact h4
theorem abR{α:Type}:∀(l:List α),l.eraseIdx (l.length-1)=l.dropLast
 |[]=>rfl
 |[x]=>rfl
 |x::y::r=>by show x::(y::r).eraseIdx ((y::r).length-1)=x::(y::r).dropLast;rw[abR (y::r)]
theorem aaJ{a b:Str}(h:(a==b)=true):a=b:=C9.mp h
theorem afV{i:Int}(h:0<=i):fk i=((Go i:Nat):Int):=by
 unfold fk Go
 by_cases h0:i=0
 ·clear h;subst h0;rfl
 ·rw[CJ h0]
  split
  ·rename_i q;simp only[C9] at q;exact am7 h0 q
  ·rfl
theorem aaK{b:Array UInt8}{l:List UInt8}(h:KBw.bInts b=l.map λc=>(c.toNat:Int)):b=l.toArray:=by
 unfold KBw.bInts at h;have:b.toList=l:=by
  (revert h;refine gn b.toList λm h=>?_)
  induction m generalizing l with
  |nil=>cases l with
   |nil=>rfl
   |cons _ _=>cases h
  |cons x m ih=>cases l with
   |nil=>cases h
   |cons y l=>simp only[DS,IY] at h;obtain⟨h1,h2⟩:=h;rw[ih h2];congr 1;exact JE.mp (by exact_mod_cast h1)
 rw[<-this,J3]
theorem aj0{i:Int}(h:0<=i)(k:Nat):i%(k:Int)=((i.toNat%k:Nat):Int):=by obtain⟨n,rfl⟩:=GP h;rfl
theorem ndm{i:Int}(h:0<=i):i/256%256=((i.toNat/256%256:Nat):Int):=by obtain⟨n,rfl⟩:=GP h;rfl
theorem nmm{i:Int}(h:0<=i):i%256=((i.toNat%256%256:Nat):Int):=by obtain⟨n,rfl⟩:=GP h;rw[Nat.mod_mod];rfl
theorem apj(I:Inv c.prog c.w B c.U μ H s.heap){i n:Int}{v:Tok}(P:s6 c s B μ VR (R.of ((ic i n).map .bytes) H:R AV) Q E):
  CB (CA c.prog c.w) A (call (.builtin "int.to_bytes") [.int i t,.int n u,.str (Et "big") v]) Q E s:=by
 delta ic at P
 by_cases e:n=1
 ·subst e;rw[CG rfl] at P
  by_cases h:0<=i/\i<256
  ·rw[CG h] at P;refine KD (by decide) (by decide) h.1 h.2 λb t' k' hb hl=>?_;have:b=[CT i.toNat].toArray:=aaK (by
    rw[hb];show [i%256]=[((CT i.toNat).toNat:Int)];rw[GK];exact CH (λx=>[x]) (aj0 h.1 256))
   rw[this];exact P.now I (.bytes _ _ (by rw[dN];simp))
  ·rw[CJ h] at P;exact P.elim
 ·rw[CJ e] at P
  by_cases e:n=2
  ·subst e;rw[CG rfl] at P
   by_cases h:0<=i/\i<65536
   rotate_left
   ·rw[CJ h] at P;exact P.elim
   rw[CG h] at P;refine KD (by decide) (by decide) h.1 h.2 λb t' k' hb hl=>?_;have:b=[CT (i.toNat/256),CT (i.toNat%256)].toArray:=aaK (by
    rw[hb];show [i/256%256,i%256]=[((CT (i.toNat/256)).toNat:Int),((CT (i.toNat%256)).toNat:Int)];rw[GK,GK];rw[ndm h.1,nmm h.1])
   rw[this];exact P.now I (.bytes _ _ (by rw[dN];simp))
  ·rw[CJ e] at P;exact P.elim
section
variable {x:AV}
theorem ajo(I:Inv c.prog c.w B c.U μ H s.heap)(vx:VR B μ x cx)(hv:tD B μ vs tf)(P:s6 c s B μ VR (acC H x vs) Q E):CB (CA c.prog c.w) A (call (.builtin "list.append") (cx::tf)) Q E s:=by
 replace P:=s6.p1 P;obtain⟨v,rfl,P⟩:=P;(obtain⟨AK,zq1,h⟩:=(hv.o1);clear hv;subst zq1);replace P:=P.pL;obtain⟨p,xs,rfl,hp,P⟩:=P;(obtain⟨a,zq1,ha⟩:=(vx.r);clear vx;subst zq1);replace P:=P.pQ;obtain⟨hl,P⟩:=P;obtain⟨cv,n,h1,h2,h3⟩:=I.list ha hp;refine Hy JA (ae _ h1 rfl) L7 (L6 _ _) (Ml a cv.toArray n AK (by rw[De,h2.length];exact ki h3)) ⟨h1,?_⟩;have e:=JC h1 (λx=>x.push AK)
 exact P.upd I ha (Gr ..).extBut e (ax (cv++[AK]) _ (CH (λx=>({cls:=.type "list",data:=.seq x _}:Obj)) (Ig cv AK)) (h2.append (.cons h .nil)) (by rw[List.length_append];exact hl)) (jC rfl) .none s.toks
theorem ajq(I:Inv c.prog c.w B c.U μ H s.heap)(vx:VR B μ x cx)(hv:tD B μ vs tf)(P:s6 c s B μ VR (acE H x vs) Q E):CB (CA c.prog c.w) A (call (.builtin "list.pop") (cx::tf)) Q E s:=by
 replace P:=s6.p0 P;obtain⟨rfl,P⟩:=P;rw[hv.n];replace P:=P.pL;obtain⟨p,xs,rfl,hp,P⟩:=P;(obtain⟨a,zq1,ha⟩:=(vx.r);clear vx;subst zq1);replace P:=P.pO;obtain⟨v,hv',P⟩:=P;obtain⟨cv,n,h1,h2,h3⟩:=I.list ha hp;have zH:xs[xs.length-1]?=some v:=by rw[<-List.getLast?_eq_getElem?];exact hv'
 obtain⟨cy,g1,g2⟩:=h2.get zH;have t6:cv.toArray.size=xs.length:=h2.length;have zV:xs.length-1<xs.length:=(List.getElem?_eq_some_iff.mp zH).1;refine Hy Mb (ae _ h1 rfl) PySem.F.entry_list_pop (PySem.F.args_list_pop_1 _) (Nj a cv.toArray n cy (by rw[t6];simpa using g1) (by rw[t6];exact ki h3)) ⟨h1,?_⟩;have e:=JC h1 (λx=>x.eraseIdxIfInBounds (cv.toArray.size-1))
 refine P.upd I ha (Gr ..).extBut e (ax cv.dropLast _ (CH (λx=>({cls:=.type "list",data:=.seq x _}:Obj)) ?_) h2.dropLast (by rw[K2];exact Nat.le_trans (DK _ _) h3)) (jC rfl) g2 s.toks
 unfold Array.eraseIdxIfInBounds;rw[dif_pos (by rw[t6];exact zV)];apply Array.toList_inj.mp;rw[Array.toList_eraseIdx];exact abR cv
theorem ajp(I:Inv c.prog c.w B c.U μ H s.heap)(G:uk c.prog c.w B)(vx:VR B μ x cx)(hv:tD B μ vs tf)(P:s6 c s B μ VR (acD H x vs) Q E):CB (CA c.prog c.w) A (call (.builtin "dict.get") (cx::tf)) Q E s:=by
 replace P:=s6.pC P;obtain⟨k,vs,rfl,P⟩:=P;obtain⟨_,_,rfl,h,hs⟩:=(hv.c);replace P:=P.o0;rcases P with⟨rfl,P⟩ |P
 ·rw[hs.n];replace P:=P.pG;obtain⟨g,rfl,P⟩:=P;replace P:=P.pQ;obtain⟨hk,P⟩:=P;replace P:=P.pI;obtain⟨i,rfl,P⟩:=P;clear hv;obtain⟨_,rfl⟩:=h.i;rw[vx.d.1];obtain⟨kvs,h1,h2⟩:=G.tabI g hk;have hd:=h1.keep I.base;refine JG Hq hd.mapOf.typeIs Jz (PySem.F.args_dict_get_2 _ _) (meets_dict_get (intKind c.prog c.w) (ee g) (nJ _ _) (uk.vU g)) (ae _ hd.mapOf ?_);exact P.now I (sI h2.1 (h2.2 μ) .none)
 replace P:=P.p1;obtain⟨d,rfl,P⟩:=P;(obtain⟨_,zq1,h'⟩:=(hs.o1);clear hs;subst zq1);replace P:=P.oG;rcases P with⟨g,rfl,P⟩ |P
 ·replace P:=P.pQ;obtain⟨hk,P⟩:=P;subst hk;replace P:=P.pS;obtain⟨i,rfl,P⟩:=P;clear hv;obtain⟨_,rfl⟩:=h.s;rw[vx.d.1];obtain⟨kvs,h1,h2⟩:=G.tabS;have hd:=h1.keep I.base;refine JG Hq hd.mapOf.typeIs Jz (L5 _ _ _) (MB (PySem.strKind c.prog c.w) (ee 5) (strKind_is _ _ _ _) (uk.vU 5) _) (ae _ hd.mapOf ?_);exact P.now I (sI h2.1 (h2.2 μ) h')
 replace P:=P.pD;obtain⟨p,es,rfl,hp,P⟩:=P;(obtain⟨a,zq1,ha⟩:=(vx.r);clear vx;subst zq1);replace P:=P.pY;obtain⟨i,rfl,P⟩:=P;(obtain⟨_,zq1,_⟩:=(h.y);clear h hv;subst zq1);obtain⟨kvs,h1,h2,h3,h4⟩:=I.dict ha hp;refine JG Hq h1.mapOf.typeIs Jz (L5 _ _ _) (MB (bytesKind c.prog c.w) a (lV _ _) (ry I G ha) _) (ae _ h1.mapOf ?_);exact P.now I (sI h2 h3 h')
theorem ao6(I:Inv c.prog c.w B c.U μ H s.heap)(G:uk c.prog c.w B){m:MT}(vx:VR B μ x cx)(hv:tD B μ vs tf)
  (P:s6 c s B μ VR (dW H m x vs) Q E):CB (CA c.prog c.w) A (call (.builtin (mId m)) (cx::tf)) Q E s:=by
 cases m with
 |append=>exact ajo I vx hv P
 |pop=>exact ajq I vx hv P
 |tZ=>replace P:=s6.p0 P;obtain⟨rfl,P⟩:=P;rw[hv.n];replace P:=P.pI;obtain⟨i,rfl,P⟩:=P;obtain⟨_,rfl⟩:=vx.i;replace P:=P.pQ;obtain⟨h0,P⟩:=P;refine call_int_bit_length ?_;rw[<-afV h0];exact P.now I (.int _ _)
 |toBytes=>replace P:=s6.p2 P;obtain⟨n,e,rfl,P⟩:=P;obtain⟨_,_,rfl,h,h'⟩:=(hv.o2);replace P:=P.pI;obtain⟨i,rfl,P⟩:=P;obtain⟨_,rfl⟩:=vx.i;replace P:=P.pI;obtain⟨n,rfl,P⟩:=P;obtain⟨_,rfl⟩:=h.i;replace P:=P.pS;obtain⟨e,rfl,P⟩:=P;obtain⟨_,rfl⟩:=(h'.s);replace P:=P.pQ;obtain⟨ho,P⟩:=P;clear h' hv;obtain rfl:=aaJ ho;exact apj I P
 |encode=>replace P:=s6.p1 P;obtain⟨e,rfl,P⟩:=P;obtain⟨_,rfl,h⟩:=(hv.o1);replace P:=P.pS;obtain⟨x,rfl,P⟩:=P;obtain⟨_,rfl⟩:=vx.s;replace P:=P.pS;obtain⟨e,rfl,P⟩:=P;obtain⟨_,rfl⟩:=(h.s);replace P:=P.pQ;obtain⟨ho,P⟩:=P;simp only[Bool.and_eq_true,C3] at ho;obtain⟨⟨h0,h1⟩,h2⟩:=ho;clear h hv;obtain rfl:=aaJ h0;exact EN.arA h1 (ki h2) λt' k=>P.now I (.bytes _ _ (by rw[List.length_map,HE];exact h2))
 |get=>exact ajp I G vx hv P
 |join=>replace P:=s6.p1 P;obtain⟨v,rfl,P⟩:=P;obtain⟨_,rfl,h⟩:=(hv.o1);replace P:=P.pY;obtain⟨sep,rfl,P⟩:=P;(obtain⟨_,zq1,_⟩:=(vx.y);clear vx;subst zq1);replace P:=P.pL;obtain⟨p,xs,rfl,hp,P⟩:=P;(obtain⟨a,zq1,ha⟩:=(h.r);clear h hv;subst zq1);replace P:=P.pO;obtain⟨bs,hn,P⟩:=P;replace P:=P.pQ;obtain⟨hl,P⟩:=P;replace P:=P.arK;obtain⟨t6,P⟩:=P;obtain⟨cv,n,h1,h2,h3⟩:=I.list ha hp;exact JB.arQ h1 (h2.uB hn) hl t6 λt' k=>P.now I (.bytes _ _ t6)
end
end
section
variable {c:tG}
theorem VR.handed(h:VR B μ v cv):handedIn cv=true:=by cases h<;>rfl
theorem uY.inst{x:Cz}(i:uY h k x c0 c1 c2):∃ox od,InstAt h x ox (bO k) (some od)/\Fits od k c0 c1 c2:=by refine o_eeeaaa i.at_ λox d od h1 h2 h3=>r_aa λh4 h5 h6=>?_;exact(bR ox od ⟨h1,h2,h4,by rw[h3];exact h5⟩ h6)
theorem Fits.at{od:Obj}{i:Nat}(F:Fits od k c0 c1 c2)(hk:k<2)(e:[c0,c1,c2][i]?=some cv):lookIn (fU (3*k+i)) od=some (some cv):=by
 match k,hk,i,e with
 |0,_,0,rfl=>exact F.f0
 |0,_,1,rfl=>exact F.f1
 |0,_,2,rfl=>exact F.f2
 |1,_,0,rfl=>exact F.f0
 |1,_,1,rfl=>exact F.f1
 |1,_,2,rfl=>exact F.f2
theorem aoL(I:Inv c.prog c.w B c.U μ H s.heap)(G:uk c.prog c.w B){n:Nat}{x:AV}(vx:VR B μ x cx)(h:lv x n=some v)
  (hq:∀t cv,VR B μ v cv->Q cv {s with toks:=t}):CB (CA c.prog c.w) A (getAttr cx (fU n) true) Q E s:=by
 refine o_eea ((adA (C:=λo=>o=some v) h).resolve_right nofun) λk vs e h=>?_;subst e;obtain⟨i,h1,h2⟩:=FK.mp h;refine o_eeeeee vx.o λx v0 v1 v2 c0 c1=>r_eaaaaa λc2 e1 e2 hi A0 ze zH=>?_;subst e1 e2;obtain⟨K,hK,KF⟩:=G.kf;refine o_aaea (KF.attrs k n i h1) λg1 g2 a g3 g4=>?_;obtain⟨ox,od,J,F⟩:=(hi.mono I.base).inst;obtain⟨cv,q,hv⟩:=(tD.cons A0 (.cons ze (.cons zH .nil))).get h2;refine o_a ((ot (C:=λo=>o=some i) h1).resolve_right nofun) λhc h1=>?_;cases h1;have:=F.at hc.1 q;rw[EX hc.2.1] at this;exact get_value (hK.keeps I.base) J (JM g1).1 (findObj_own g2 g3 g4 this) hv.handed (hq _ _ hv)
theorem ao9{Q:Cy×List Cy->CC->Prop}(I:Inv c.prog c.w B c.U μ H s.heap)(G:uk c.prog c.w B)(vx:VR B μ (.inst 1 vs) cx)
  (hq:Q (.ref 144,[cx]) s):CB (CA c.prog c.w) A (getMethod cx "most" pl) Q E s:=by
 refine o_eeeeee vx.o λx v0 v1 v2 c0 c1=>r_eaaaaa λc2 e1 e2 hi Z Z Z=>?_;clear vx;subst e1;obtain⟨K,hK,KF⟩:=G.kf;obtain⟨ox,od,J,F⟩:=(hi.mono I.base).inst;obtain⟨g1,g2,g3⟩:=KF.most;refine method_fn (hK.keeps I.base) J (JM g1).1 (JM g1).2 g2 (C9.mp g3) ?_ hq
 show(lookIn "most" od).map _=_
 rw[F.most];rfl
end
theorem rG{e:CD}(h:TE vis nk pe e)(op:CmpOp):behindInMarks op e=false:=h.nice.set op
theorem ku{e:CD}{rest:List CD}(h:TE vis nk pe e):starEach (e::rest) env=(false,eval e env)::starEach rest env:=h.nice.star _ _
theorem rE{e:CD}{attr:Str}(h:l9 e=true):attributeBase e attr env (eval e env)=eval e env:=by
 cases e with
 |Call f as kw pos=>
  cases f with
  |Name id p=>
   cases as with
   |nil=>
    cases kw with
    |nil=>
     have um:(id !="super")=true:=h
     delta attributeBase;exact CG (by rw[um];rfl)
    |cons _ _=>rfl
   |cons _ _=>rfl
  |_=>rfl
 |_=>rfl
theorem kF{vis:aN}{nk:aP}{env:Env}{pos:Pos}:∀{pes:ub}{es:List CD},u7 vis nk pes es->(backTo pos (starEach es env)).any (·.1)=false/\(backTo pos (starEach es env)).all (λx=> !x.1)=true
 | .nil,_,h=>by rw[show _=_ from h];exact⟨rfl,rfl⟩
 | .cons p ps,es,h=>by obtain⟨he,h,hs⟩:=h;(revert he h;refine gn (hd es) λf he h=>?_);(revert he hs;refine gn es.tail λfs hs he=>?_);subst he;obtain⟨h1,h2⟩:=kF hs;rw[ku h];exact⟨by show(false||(backTo pos (starEach fs env)).any (·.1))=false;rw[h1];rfl,by show(!false&&(backTo pos (starEach fs env)).all (λx=> !x.1))=true;rw[h2];rfl⟩
section
variable {c:tG}{n:Nat}
theorem aX{c:tG}{Rel:CF->List Cz->α->β->Prop}{δ:Type}{Rel₁:CF->List Cz->γ->δ->Prop}
  {Q:β->CC->Prop} {r:R γ} {f:γ->AH->R α} {Q₁:δ->CC->Prop}
  (D:uX c env vis ρ B μ H s.heap) (P:s6 c s B μ Rel (r.bind f) Q E)
  (k:∀a H' B' th (s':CC) b,r=.ok a H'->uX c env vis ρ B' th H' s'.heap->Rel₁ B' th a b->B.StaysIn B'->Pre μ th->s6 c s' B' th Rel (f a H') Q E->Q₁ b s'):
  s6 c s B μ Rel₁ r Q₁ E:=
 P.bind λa H' B' th h' t' b e x y I v P'=>k a H' B' th {s with heap:=h',toks:=t'} b e (D.step x y I) v x y P'
theorem apl{i:Nat}(hx:(i,x)∈vis)(ho:fw x=true):aO c n vis nk (.var i) (.Name x pos):=λA env ρ m B μ H s Q E S D P=>by
 replace P:=s6.to P E1.atU;obtain⟨v,hv,P⟩:=P.pO;refine((anU (C:=λr=>s6 c s B μ VR r Q E) P).resolve_right id).elim λh1 q=>?_;obtain⟨h2,P⟩:=q
 ·simp only[fw,Bool.and_eq_true,Fb] at ho;obtain⟨hd,hc⟩:=ho;obtain⟨cv,g1,g2⟩:=D.env i x v hx hv h1;have vr:VR B μ v cv:=by
   clear h1 hv P;cases v<;>first |exact g1 |exact CI rfl (h2 _)
  rw[arm_eval_Name];refine wpAny_bind (DN ?_);rw[CJ (by simpa using hd)];exact acx D.inv S.kind g2 hc (P.now D.inv vr)
theorem eg{m:Nat}(S:ES c A env nk n m)(D:uX c env vis ρ B μ H s.heap)
  (hg:glob? nk x=true) (hx:∃g b,B.Ns Df g/\B.Ns Ec b/\(g x=some cv\/(g x=none/\b x=some cv))) (h:Q cv s):CB (CA c.prog c.w) A (eval (.Name x pos) env) Q E s:=by
 unfold glob? at hg;simp only[Bool.and_eq_true,C9,Fb] at hg;obtain⟨g,b,h1,h2,h3⟩:=hx;have hk:=S.Cm x hg.1;have e1:s.heap.Ns env.globals g:=by rw[S.glob];exact h1.keeps D.inv.base
 have e2:s.heap.Ns env.builtins b:=by rw[S.blt];exact h2.keeps D.inv.base
 refine Ll S.kind hk ?_ (by simpa using hg.2);rcases h3 with h3 |⟨h3,h4⟩
 ·exact loadGlobal_global e1 h3 h
 ·exact Mz e1 h3 e2 h4 h
end
section
variable {c:tG}{n:Nat}
structure ul(c:tG)(n:Nat)(vis:aN)(nk:aP)(pe:PE)(e:CD):Prop where
 t:TE vis nk pe e
 v:aO c n vis nk pe e
 b:ib c n vis nk pe e
inductive tY(c:tG)(n:Nat)(vis:aN)(nk:aP):ub->List CD->Prop
 |nil:tY c n vis nk .nil []
 |cons {p:PE} {ps:ub} {e:CD} {es:List CD} (h:ul c n vis nk p e) (hs:tY c n vis nk ps es):tY c n vis nk (.cons p ps) (e::es)
theorem tY.len{es:List CD}(hs:tY c n vis nk ps es):u7 vis nk ps es:=by
 induction hs with
 |nil=>exact rfl
 |cons h _ ih=>exact⟨rfl,h.t,ih⟩
theorem tY.sound{es:List CD}(hs:tY c n vis nk ps es):pr c n vis nk ps es:=by
 induction hs with
 |nil=>exact λA env ρ m B μ H s Q E pos S D P=>spliced_none (P.now D.inv .nil)
 |cons h _ ih=>refine λA env ρ m B μ H s Q E pos S D P=>?_;replace P:=s6.to P E2.cons;refine spliced_more (h.v A env ρ m B μ H s _ E S D (aX D P λv H' B' th s' cv e D' v' hB tJ P'=>?_)) (ku h.t);refine ih A env ρ m B' th H' s' _ E pos S D' (aX D' P' λvs xL yy wN wo tf e' vn Cv xx vk vG=>?_);exact vG.now vn.inv (.cons (v'.mono xx vk) Cv)
theorem aql{e:CD}(h:aO c n vis nk pe e)(he:∀env whole,isTrue e env whole=(do let v<-whole;standAt e.pos;holding [v] (truthy v))):ib c n vis nk pe e:=λA env ρ m B μ H s Q E S D P=>by
 refine wpAny_isTrue_value (h A env ρ m B μ H s _ E S D (aX D P λv H' B' th s' cv e D' v' hB tJ P'=>?_)) (he _ _)
 cases v with
 |bool b=>cases v';exact ER (P'.now D'.inv rfl)
 |_=>exact P'.elim
theorem aoP{o:zk}{a b:PE}{r:CD}(ha:aO c n vis nk a l)(hb:aO c n vis nk b r):aO c n vis nk (.bin o a b) (.BinOp l (ml o) r pos):=λA env ρ m B μ H s Q E S D P=>by replace P:=s6.to P E1.bin;rw[arm_eval_BinOp];refine wpAny_bind (ha A env ρ m B μ H s _ E S D (aX D P λx H' B' th s' cx e D' vx hB tJ P'=>wpAny_bind (Dv ?_)));refine hb A env ρ m B' th H' s' _ E S D' (aX D' P' λy xL yy wN wo cy e' vn vy xx vk vG=>?_);exact wpAny_bind (DN (MS (adW vn.inv (vx.mono xx vk) vy vG)))
theorem apb{a:PE}(ha:aO c n vis nk a l):aO c n vis nk (.neg a) (.UnaryOp .USub l pos):=λA env ρ m B μ H s Q E S D P=>by
 replace P:=s6.to P E1.neg;refine wpAny_UnaryOp (ha A env ρ m B μ H s _ E S D (aX D P λx H' B' th s' cx e D' vx hB tJ P'=>?_))
 cases x with
 |int i=>cases vx;exact neg_int (P'.now D'.inv (.int _ _))
 |_=>exact P'.elim
theorem apd{a:PE}(ha:ul c n vis nk a l):aO c n vis nk (.not a) (.UnaryOp .Not l pos)/\ib c n vis nk (.not a) (.UnaryOp .Not l pos):=by
 constructor
 ·intro A env ρ m B μ H s Q E S D P;replace P:=s6.to P E1.not;refine wpAny_UnaryOp (ha.v A env ρ m B μ H s _ E S D (aX D P λx H' B' th s' cx e D' vx hB tJ P'=>?_))
  cases x with
  |bool b=>cases vx;exact not_of (ER (P'.now D'.inv (.bool _)))
  |_=>exact P'.elim
 ·intro A env ρ m B μ H s Q E S D P;rw[E1.not] at P;refine wpAny_isTrue_Not (ha.b A env ρ m B μ H s _ E S D ?_);revert P;refine gn (ev c.Γ a m ρ H) λr=>?_
  cases r with
  |ok v H'=>
   cases v with
   |bool b=>exact λP B' th h' t' b' x y I v=>by cases v;exact P B' th h' t' (!b) x y I rfl
   |_=>exact λP=>P.elim
  |exc k H'=>exact λP=>P
  |bad=>exact λP=>P.elim
theorem ao3{t a b:PE}{te r:CD}(ht:ul c n vis nk t te)(ha:ul c n vis nk a l)(hb:ul c n vis nk b r):aO c n vis nk (.u5 t a b) (.IfExp te l r pos)/\ib c n vis nk (.u5 t a b) (.IfExp te l r pos):=by
 have key:∀{α β:Type}{Rel:CF->List Cz->α->β->Prop}{A:Around}{env:Env}{ρ:aB}{m:Nat}{B:CF}{μ:List Cz}{H:AH}{s:CC}{Q:β->CC->Prop}{E:Cy->CC->Prop}{f:AV->AH->R α}{Q₁:Bool->CC->Prop},
   ES c A env nk n m->uX c env vis ρ B μ H s.heap->s6 c s B μ Rel ((ev c.Γ (.u5 t a b) m ρ H).bind f) Q E->
   (∀H' B' th (s':CC),uX c env vis ρ B' th H' s'.heap->s6 c s' B' th Rel ((ev c.Γ a m ρ H').bind f) Q E->Q₁ true s')->
   (∀H' B' th (s':CC),uX c env vis ρ B' th H' s'.heap->s6 c s' B' th Rel ((ev c.Γ b m ρ H').bind f) Q E->Q₁ false s')->
   CB (CA c.prog c.w) A (isTrue te env (eval te env)) Q₁ E s:=by
  intro α β Rel A env ρ m B μ H s Q E f Q₁ S D P k1 k2;rw[E1.u5] at P;refine ht.b A env ρ m B μ H s _ E S D ?_;revert P;refine gn (ev c.Γ t m ρ H) λr=>?_
  cases r with
  |ok v H'=>
   cases v with
   |bool b=>
    cases b with
    |true=>
     intro P B' th h' t' b' x y I v;obtain rfl:b'=true:=by cases v;rfl
     exact k1 H' B' th {s with heap:=h',toks:=t'} (D.step x y I) (s6.shift P x y h' t')
    |false=>
     intro P B' th h' t' b' x y I v;obtain rfl:b'=false:=by cases v;rfl
     exact k2 H' B' th {s with heap:=h',toks:=t'} (D.step x y I) (s6.shift P x y h' t')
   |_=>exact λP=>P.elim
  |exc k H'=>exact λP=>P
  |bad=>exact λP=>P.elim
 have Ce:∀(r:R AV),(r.bind λa H=>R.ok a H)=r:=λr=>by cases r<;>rfl
 constructor
 ·intro A env ρ m B μ H s Q E S D P;rw[<-Ce (ev c.Γ (.u5 t a b) m ρ H)] at P;refine IfExp_ (key S D P (λH' B' th s' D' P'=>?_) (λH' B' th s' D' P'=>?_))
  ·rw[Ce] at P';exact ha.v A env ρ m B' th H' s' Q E S D' P'
  ·rw[Ce] at P';exact hb.v A env ρ m B' th H' s' Q E S D' P'
 ·intro A env ρ m B μ H s Q E S D P;rw[arm_isTrue_IfExp];refine wpAny_bind (key S D P (λH' B' th s' D' P'=>?_) (λH' B' th s' D' P'=>?_))
  ·exact ha.b A env ρ m B' th H' s' Q E S D' P'
  ·exact hb.b A env ρ m B' th H' s' Q E S D' P'
end
section
variable {c:tG}{n:Nat}
theorem aoN{p:PE}{es:List CD}{e:CD}(hp:ul c n vis nk p e)(hs:tY c n vis nk ps es):aO c n vis nk (.band (.cons p ps)) (.BoolOp .And (e::es) pos):=by
 induction hs generalizing p e with
 |nil=>
  refine λA env ρ m B μ H s Q E S D P=>ID (hp.v A env ρ m B μ H s _ E S D (aX D (s6.to P (E1.band.trans E3.cons)) λv H' B' th s' cv e D' v' hB tJ P'=>?_));(obtain⟨b,q,P'⟩:=P'.pB;subst q);rw[v'.b]
  cases b with
  |true=>exact s6.now P' D'.inv (.bool _)
  |false=>exact P'.now D'.inv (.bool _)
 |cons hq _ ih=>
  refine λA env ρ m B μ H s Q E S D P=>BoolOp_and (hp.v A env ρ m B μ H s _ E S D (aX D (s6.to P (E1.band.trans E3.cons)) λv H' B' th s' cv e D' v' hB tJ P'=>?_));(obtain⟨b,q,P'⟩:=P'.pB;subst q);rw[v'.b];refine ER ?_
  cases b with
  |true=>exact ih hq A env ρ m B' th H' s' Q E S D' P'
  |false=>exact P'.now D'.inv (.bool _)
theorem aoQ{p:PE}{es:List CD}{e:CD}(hp:ul c n vis nk p e)(hs:tY c n vis nk ps es):aO c n vis nk (.bor (.cons p ps)) (.BoolOp .Or (e::es) pos):=by
 induction hs generalizing p e with
 |nil=>
  refine λA env ρ m B μ H s Q E S D P=>ID (hp.v A env ρ m B μ H s _ E S D (aX D (s6.to P (E1.bor.trans E4.cons)) λv H' B' th s' cv e D' v' hB tJ P'=>?_));(obtain⟨b,q,P'⟩:=P'.pB;subst q);rw[v'.b]
  cases b with
  |false=>exact s6.now P' D'.inv (.bool _)
  |true=>exact P'.now D'.inv (.bool _)
 |cons hq _ ih=>
  refine λA env ρ m B μ H s Q E S D P=>BoolOp_or (hp.v A env ρ m B μ H s _ E S D (aX D (s6.to P (E1.bor.trans E4.cons)) λv H' B' th s' cv e D' v' hB tJ P'=>?_));(obtain⟨b,q,P'⟩:=P'.pB;subst q);rw[v'.b];refine ER ?_
  cases b with
  |false=>exact ih hq A env ρ m B' th H' s' Q E S D' P'
  |true=>exact P'.now D'.inv (.bool _)
theorem sK{Rel:CF->List Cz->α->β->Prop}
  {Q:β->CC->Prop} {r:R AV} {g:Bool->AH->R α} {Q₁:Bool->CC->Prop}
  (D:uX c env vis ρ B μ H s.heap) (P:s6 c s B μ Rel (r.bind λv H=>match v with | .bool b=>g b H |_=>.bad) Q E)
  (k:∀b H' B' th (s':CC),r=.ok (.bool b) H'->uX c env vis ρ B' th H' s'.heap->B.StaysIn B'->Pre μ th->s6 c s' B' th Rel (g b H') Q E->Q₁ b s'):
  s6 c s B μ jO (r.bind λv H=>match v with | .bool b=>.ok (.bool b) H |_=>.bad) Q₁ E:=by
 revert P
 cases r with
 |ok v H'=>
  cases v with
  |bool b=>
   intro P B' th h' t' b' x y I v;obtain rfl:b'=b:=by cases v;rfl
   exact k b' H' B' th {s with heap:=h',toks:=t'} rfl (D.step x y I) x y (s6.shift P x y h' t')
  |_=>exact λP=>P.elim
 |exc k H'=>exact λP=>P
 |bad=>exact λP=>P.elim
theorem R.bind_assoc(r:R α)(f:α->AH->R β)(g:β->AH->R γ):(r.bind f).bind g=r.bind λa H=>(f a H).bind g:=by cases r<;>rfl
theorem aap{p:PE}{m:Nat}:(tX Γ (.cons p ps) m ρ H).bind (λv H=>match v with | .bool b=>R.ok (.bool b) H |_=>.bad)=(ev Γ p m ρ H).bind λv H=>match v with | .bool b=>(if b then(tX Γ ps m ρ H).bind (β:=AV) (λv H=>match v with | .bool b=>R.ok (.bool b) H |_=>.bad) else .ok (.bool false) H) |_=>.bad:=by
 rw[E3.cons,R.bind_assoc];refine CH _ (funext λv=>funext λH=>?_)
 cases v with
 |bool b=>cases b<;>rfl
 |_=>rfl
theorem an0{p:PE}{m:Nat}:(vj Γ (.cons p ps) m ρ H).bind (λv H=>match v with | .bool b=>R.ok (.bool b) H |_=>.bad)=(ev Γ p m ρ H).bind λv H=>match v with | .bool b=>(if b then .ok (.bool true) H else(vj Γ ps m ρ H).bind (β:=AV) (λv H=>match v with | .bool b=>R.ok (.bool b) H |_=>.bad)) |_=>.bad:=by
 rw[E4.cons,R.bind_assoc];refine CH _ (funext λv=>funext λH=>?_)
 cases v with
 |bool b=>cases b<;>rfl
 |_=>rfl
theorem aqc{es:List CD}(hs:tY c n vis nk ps es):∀(A:Around)(env:Env)(ρ:aB)(m:Nat)(B:CF)(μ:List Cz)(H:AH)(s:CC)(Q:Bool->CC->Prop)(E:Cy->CC->Prop),
  ES c A env nk n m->uX c env vis ρ B μ H s.heap->s6 c s B μ jO ((tX c.Γ ps m ρ H).bind λv H=>match v with | .bool b=>.ok (.bool b) H |_=>.bad) Q E->CB (CA c.prog c.w) A (allTrue .And es env) Q E s:=by
 induction hs with
 |nil=>exact λA env ρ m B μ H s Q E S D P=>wpAny_allTrue_And_nil (s6.now P D.inv rfl)
 |cons h _ ih=>
  refine λA env ρ m B μ H s Q E S D P=>wpAny_allTrue_And_cons (h.b A env ρ m B μ H s _ E S D ?_);refine sK D (s6.to P aap) λb H' B' th s' e D' hB tJ P'=>?_
  cases b with
  |true=>exact ih A env ρ m B' th H' s' Q E S D' P'
  |false=>exact P'.now D'.inv rfl
theorem aqd{es:List CD}(hs:tY c n vis nk ps es):∀(A:Around)(env:Env)(ρ:aB)(m:Nat)(B:CF)(μ:List Cz)(H:AH)(s:CC)(Q:Bool->CC->Prop)(E:Cy->CC->Prop),
  ES c A env nk n m->uX c env vis ρ B μ H s.heap->s6 c s B μ jO ((vj c.Γ ps m ρ H).bind λv H=>match v with | .bool b=>.ok (.bool b) H |_=>.bad) Q E->CB (CA c.prog c.w) A (allTrue .Or es env) Q E s:=by
 induction hs with
 |nil=>exact λA env ρ m B μ H s Q E S D P=>wpAny_allTrue_Or_nil (s6.now P D.inv rfl)
 |cons h _ ih=>
  refine λA env ρ m B μ H s Q E S D P=>wpAny_allTrue_Or_cons (h.b A env ρ m B μ H s _ E S D ?_);refine sK D (s6.to P an0) λb H' B' th s' e D' hB tJ P'=>?_
  cases b with
  |false=>exact ih A env ρ m B' th H' s' Q E S D' P'
  |true=>exact P'.now D'.inv rfl
theorem kW{m:Nat}(S:ES c A env nk n m):A.units+10<=9800:=by have:=S.units;exact al5 this
theorem s6.wK{Rel:CF->List Cz->α->β->Prop}{o:Option α}{Q:β->CC->Prop}(P:s6 c s B μ Rel (R.of o H) Q E):∃a,o=some a/\s6 c s B μ Rel (.ok a H) Q E:=by
 cases o with
 |none=>exact P.elim
 |some a=>exact(ae a rfl P)
theorem aoS{o:yA}{a b:PE}{r:CD}(ha:aO c n vis nk a l)(hb:ul c n vis nk b r):aO c n vis nk (.cmp a o b) (.Compare l [dI o] [r] pos)/\ib c n vis nk (.cmp a o b) (.Compare l [dI o] [r] pos):=by
 constructor
 ·intro A env ρ m B μ H s Q E S D P;replace P:=s6.to P E1.cmp;refine wpAny_Compare1 (ha A env ρ m B μ H s _ E S D (aX D P λx H' B' th s' cx e D' vx hB tJ P'=>?_)) (rG hb.t _);refine hb.v A env ρ m B' th H' s' _ E S D' (aX D' P' λy xL yy wN wo cy e' vn vy xx vk vG=>?_);obtain⟨v,hv,P3⟩:=vG.wK;(obtain⟨b,h1,zq2⟩:=Ek.mp hv;clear hv;subst zq2);exact kN vn.inv vn.uv (vx.mono xx vk) vy h1 (kW S) λt=>P3.now vn.inv (.bool _)
 ·intro A env ρ m B μ H s Q E S D P;rw[E1.cmp] at P;rw[R.bind_assoc] at P;rw[Mv];refine wpAny_bind (ha A env ρ m B μ H s _ E S D (aX D P λx H' B' th s' cx e D' vx hB tJ P'=>?_));rw[MA _ _ _ (show lastMarks [dI o] [r]=false from rG hb.t _)];rw[R.bind_assoc] at P';refine test_last (hb.v A env ρ m B' th H' s' _ E S D' (aX D' P' λy xL yy wN wo cy e' vn vy xx vk vG=>?_))
  cases q:bj xL o x y with
  |none=>rw[q] at vG;exact vG.elim
  |some b=>rw[q] at vG;exact kN vn.inv vn.uv (vx.mono xx vk) vy q (kW S) λt=>ER (vG.now vn.inv rfl)
theorem aoT{o o':yA}{a b d:PE}{r t:CD}(ha:aO c n vis nk a l)(hb:ul c n vis nk b r)(hd:ul c n vis nk d t):
  aO c n vis nk (.uE a o b o' d) (.Compare l [dI o,dI o'] [r,t] pos)/\ib c n vis nk (.uE a o b o' d) (.Compare l [dI o,dI o'] [r,t] pos):=by
 have hm:lastMarks [dI o,dI o'] [r,t]=false:=by show behindInMarks (dI o') t=false;exact rG hd.t _
 constructor
 ·intro A env ρ m B μ H s Q E S D P;replace P:=s6.to P E1.uE;refine Compare_chain (ha A env ρ m B μ H s _ E S D (aX D P λx H' B' th s' cx e D' vx hB tJ P'=>?_)) hm;refine chain_link (hb.v A env ρ m B' th H' s' _ E S D' (aX D' P' λy xL yy wN wo cy e' vn vy xx vk vG=>?_))
  cases q:bj xL o x y with
  |none=>rw[q] at vG;exact vG.elim
  |some b=>
   rw[q] at vG;refine kN vn.inv vn.uv (vx.mono xx vk) vy q (kW S) λtk=>ER ?_
   cases b with
   |false=>exact vG.now vn.inv (.bool _)
   |true=>refine chain_last ?_;refine hd.v A env ρ m yy wN xL {wo with toks:=tk} _ E S vn (aX vn vG λz H3 B3 y4 s3 cz e3 D3 vz vS uS P3=>?_);obtain⟨v,hv,P4⟩:=P3.wK;(obtain⟨b,h1,zq2⟩:=Ek.mp hv;clear hv;subst zq2);exact kN D3.inv D3.uv (vy.mono vS uS) vz h1 (kW S) λt=>P4.now D3.inv (.bool _)
 ·intro A env ρ m B μ H s Q E S D P;rw[E1.uE] at P;rw[R.bind_assoc] at P;rw[Mv];refine wpAny_bind (ha A env ρ m B μ H s _ E S D (aX D P λx H' B' th s' cx e D' vx hB tJ P'=>?_));rw[MA _ _ _ hm];rw[R.bind_assoc] at P';refine test_link (hb.v A env ρ m B' th H' s' _ E S D' (aX D' P' λy xL yy wN wo cy e' vn vy xx vk vG=>?_))
  cases q:bj xL o x y with
  |none=>rw[q] at vG;exact vG.elim
  |some b=>
   rw[q] at vG;refine kN vn.inv vn.uv (vx.mono xx vk) vy q (kW S) λtk=>ER ?_
   cases b with
   |false=>exact vG.now vn.inv rfl
   |true=>
    refine test_last ?_;change s6 _ _ _ _ _ (((ev c.Γ d m ρ xL).bind λz H=>(R.of ((bj H o' y z).map AV.bool) H:R AV)).bind _) _ _ at vG;rw[R.bind_assoc] at vG;refine hd.v A env ρ m yy wN xL {wo with toks:=tk} _ E S vn (aX vn vG λz H3 B3 y4 s3 cz e3 D3 vz vS uS P3=>?_)
    cases q:bj H3 o' y z with
    |none=>rw[q] at P3;exact P3.elim
    |some b=>rw[q] at P3;exact kN D3.inv D3.uv (vy.mono vS uS) vz q (kW S) λt=>ER (P3.now D3.inv rfl)
theorem ao5{es:List CD}(h:pr c n vis nk ps es):aO c n vis nk (.list ps) (.List es pos):=λA env ρ m B μ H s Q E S D P=>by replace P:=s6.to P E1.list;refine wpAny_List (h A env ρ m B μ H s _ E pos S D (aX D P λvs H' B' th s' tf e D' v' hB tJ P'=>?_));obtain⟨h1,h2⟩:=pH D'.inv v' P' s'.toks 0;exact⟨by rw[v'.length,fF];exact h1,h2⟩
theorem abV{Γ:Ctx}{m:Nat}{ρ:aB}:∀{ps:ub}{es:List CD}{H H':AH}{vs:List AV},u7 vis nk ps es->uc Γ ps m ρ H=.ok vs H'->vs.length=es.length
 | .nil,_,H,H',vs,ht,h=>by rw[show _=_ from ht];cases(E2.nil).symm.trans h;rfl
 | .cons e es,ts,H,H',vs,ht,h=>by obtain⟨he,ht,hs⟩:=ht;rw[he];obtain⟨v,H1,_,q⟩:=R.wa (E2.cons.symm.trans h);obtain⟨ws,H2,q2,q3⟩:=R.wa q;clear h q;cases q3;exact CH (·+1) (abV hs q2)
theorem apk{es:List CD}(ht:u7 vis nk ps es)(hl:es.length<=20)(h:pr c n vis nk ps es):aO c n vis nk (.tup ps) (.Tuple es k pos):=λA env ρ m B μ H s Q E S D P=>by replace P:=s6.to P E1.tup;refine wpAny_Tuple (h A env ρ m B μ H s _ E pos S D (aX D P λvs H' B' th s' tf e D' v' hB tJ P'=>?_));have hlen:=abV ht e;refine⟨by rw[v'.length,fF];exact(hlen▸Nat.le_trans hl (by decide)),?_⟩;exact P'.push D'.inv (DA _ rfl) λyy atf eq=>.tup _ _ _ eq (v'.mono atf (Pre.refl _))
theorem agY{prog:Program}{w:CQ}:({cls:=.type "dict",data:=.dict #[]}:Obj).IsDictOf (bytesKind prog w) []:=by
 obtain⟨o,ho,hd⟩:=IL.mp (Na (knd:=bytesKind prog w) ({}:CF))
 have:=DA ({}:CF) (o:=({cls:=.type "dict",data:=.dict #[]}:Obj)) rfl
 rw[this] at ho;cases ho;exact hd
theorem aoZ:aO c n vis nk .uL (.Dict [] [] pos):=λA env ρ m B μ H s Q E S D P=>by replace P:=s6.to P E1.uL;refine wpAny_Dict_empty ?_;have:=P.new (t:=s.toks) D.inv (λb o e=>C6 _ e) (Nat.le_refl _) (DA _ rfl) (cY [] agY rfl (.nil) (by simp)) (λ⟨vs,q⟩=>by cases q);exact this
theorem aoM{a:PE}(ha:aO c n vis nk a l)(hs:l9 l=true):aO c n vis nk (.attr a k) (.Attribute l (fU k) pos):=λA env ρ m B μ H s Q E S D P=>by
 replace P:=s6.to P E1.attr;refine Attribute_any_ (ha A env ρ m B μ H s _ E S D (aX D P λx H' B' th s' cx e D' vx hB tJ P'=>?_)) ?_
 ·obtain⟨v,hv,P3⟩:=P'.wK;exact aoL D'.inv D'.uv vx hv λt cv h=>P3.now D'.inv h
 ·rw[arm_eval_Attribute,rE hs]
theorem ao2{a i:PE}{r:CD}(ha:aO c n vis nk a l)(hi:aO c n vis nk i r):aO c n vis nk (.idx a i) (.Subscript l r pos):=λA env ρ m B μ H s Q E S D P=>by replace P:=s6.to P E1.idx;refine Subscript_ (ha A env ρ m B μ H s _ E S D (aX D P λx H' B' th s' cx e D' vx hB tJ P'=>?_));refine hi A env ρ m B' th H' s' _ E S D' (aX D' P' λy xL yy wN wo cy e' vn vy xx vk vG=>?_);obtain⟨v,hv,P3⟩:=vG.wK;exact aex (ao1 vn.inv vn.uv (vx.mono xx vk) vy hv λt cv h=>P3.now vn.inv h)
inductive vY(c:tG)(n:Nat)(vis:aN)(nk:aP):ub->Option CD->Prop
 |none:vY c n vis nk .nil none
 |some {p:PE} {e:CD} (h:aO c n vis nk p e):vY c n vis nk (.cons p .nil) (some e)
theorem vY.part{p:ub}{o:Option CD}(h:vY c n vis nk p o)(A:Around)(env:Env)(ρ:aB)(m:Nat)(B:CF)(μ:List Cz)(H:AH)(s:CC)(Q:Cy->CC->Prop)(E:Cy->CC->Prop)(S:ES c A env nk n m)(D:uX c env vis ρ B μ H s.heap)
  (P:s6 c s B μ uz (uc c.Γ p m ρ H) Q E):CB (CA c.prog c.w) A (evalPart o env) Q E s:=by
 cases h with
 |none=>rw[evalPart_none];replace P:=s6.to P E2.nil;exact wpAny_pure (P.now D.inv .none)
 |some h=>rw[evalPart_some];replace P:=s6.to P E2.cons;refine h A env ρ m B μ H s _ E S D (aX D P λx H' B' th s' cx e D' vx hB tJ P'=>?_);rw[E2.nil] at P';exact P'.now D'.inv (.some vx)
theorem uz.mono(h:uz B μ vs cv)(hB:B.StaysIn B')(tJ:Pre μ th):uz B' th vs cv:=by
 cases h with
 |none=>exact .none
 |some h=>exact .some (h.mono hB tJ)
theorem apg{a:PE}{lo hi st:ub}{x y z:Option CD}{q:Pos}(ha:aO c n vis nk a l)(hl:vY c n vis nk lo x)(hh:vY c n vis nk hi y)(ht:vY c n vis nk st z):
  aO c n vis nk (.slice a lo hi st) (.Subscript l (.Slice x y z q) pos):=λA env ρ m B μ H s Q E S D P=>by
 replace P:=s6.to P E1.slice;refine Subscript_ (ha A env ρ m B μ H s _ E S D (aX D P λv H' B' th s' cv e D' vv hB tJ P'=>?_));refine wpAny_Slice (hl.part A env ρ m B' th H' s' _ E S D' (aX D' P' λv1 H1 B1 vc s1 c1 e1 D1 vl wP wg P1=>?_));refine hh.part A env ρ m B1 vc H1 s1 _ E S D1 (aX D1 P1 λv2 H2 B2 vF s2 c2 e2 D2 vu uW ud P2=>?_);refine ht.part A env ρ m B2 vF H2 s2 _ E S D2 (aX D2 P2 λv3 H3 B3 y4 s3 c3 e3 D3 vs vS uS P3=>?_)
 have I:=D3.inv.push {cls:=.type "slice",data:=.fields #[c1,c2,c3]}
 refine aex (ape I (((vv.mono wP wg).mono uW ud).mono vS uS) ((vl.mono uW ud).mono vS uS) (vu.mono vS uS) vs (Nb ..) ?_);exact s6.shift P3 (λZ Z e=>e) (Pre.refl _) _ _
end
def uZ(f:Cy)(h:CF):Prop:=(∃id,f=.builtin id)\/(∃T,f=.type T)\/(∃a ob fd,f=.ref a/\h.get? a=some ob/\ob.data=.func fd)\/(∃K:Frag,K.In h/\keepIn K f=true)
theorem uZ.wh{f:Cy}(h:CF)(x:uZ f h):∃k,(k=KG\/k=KI\/k=KE)/\Looks M h (keeperOf f) k:=by
 rcases x with⟨id,rfl⟩ |⟨T,rfl⟩ |⟨a,ob,fd,rfl,y,z⟩ |⟨K,x,y⟩
 ·exact(ae (.machine) (.inr (.inl rfl)) (Ij rfl))
 ·exact(ae (.machine) (.inr (.inl rfl)) (Ij rfl))
 ·obtain⟨cl,di,da,sl⟩:=ob;dsimp only at z;subst z;exact(ae (.frame) (.inl rfl) ((Jm y).andThen .now))
 ·exact keeps_K y h x
def ia(c:tG)(n:Nat):Prop:=∀(A:Around)(k:Nat)(vs:List AV)(tf:List Cy)(B:CF)(μ:List Cz)(H:AH)(s:CC)(Q:Cy->CC->Prop)(E:Cy->CC->Prop),
 gA A c.U c.fs->A.depth+n<480->A.units+60*n<=8950->A.handled=none->Inv c.prog c.w B c.U μ H s.heap->uk c.prog c.w B->tD B μ vs tf->vs.length=3->k<=1->
 s6 c s B μ VR (.ok (.inst k vs) H:R AV) Q E->CB (CA c.prog c.w) A (call (.ref (bO k)) tf) Q E s
section
variable {c:tG}{n:Nat}
theorem jI{es:List CD}(h:tY c n vis nk ps es){f:Cy}{first:List Cy}{m:Nat}
  (S:ES c A env nk n m) (D:uX c env vis ρ B μ H s.heap) (P:s6 c s B μ tD (uc c.Γ ps m ρ H) (λvs td=>uZ f td.heap/\CB (CA c.prog c.w) A (call f (first++vs)) Q E td) E):
  CB (CA c.prog c.w) A (callWith pos f first (backTo pos (starEach es env)) []) Q E s:=by
 have hp:=(kF (env:=env) (pos:=pos) h.len).1;refine Hx (P:=uZ f) (by rw[hp];rfl) (λh x=>x.wh h) ?_
 cases h with
 |nil=>replace P:=s6.to P E2.nil;exact JK (P.now D.inv .nil)
 |cons h hs=>rw[ku h.t];refine JL ?_;have:=(tY.cons h hs).sound A env ρ m B μ H s _ E pos S D P;rw[ku h.t] at this;exact this
theorem ni{m:Nat}(S:ES c A env nk n m)(h:c.Γ.hd=false):A.handled=none:=by
 rcases S.uU with⟨_,h⟩ |⟨q,_⟩
 ·exact h
 ·rw[h] at q;cases q
theorem aoR{es:List CD}(CO:eS c n)(hc:jj k=true)(hg:glob? nk (cW k)=true)(h:tY c n vis nk ps es):
  aO c n vis nk (.call k ps) (.Call (.Name (cW k) np) es [] pos):=λA env ρ m B μ H s Q E S D P=>by
 replace P:=s6.to P E1.call;simp only[jj,Bool.and_eq_true,C3] at hc;obtain⟨⟨zw,yN⟩,xN⟩:=hc;have xN:k≠30/\k≠31:=by simpa using xN
 obtain⟨⟨np',nv,bd⟩,hf⟩:=FL.mp zw;obtain⟨g,b,n1,n2,_,n4,_⟩:=(D.uv.ns);refine Fu rfl (eg S D hg (ax g b n1 n2 (.inl (n4 k _ _ _ hf yN))) ?_);obtain⟨ob,fd,g1,g2⟩:=D.uv.fns k _ _ _ hf (CP (CM yN (by decide))) xN.1 xN.2;refine jI h S D (aX D P λvs H' B' th s' tf e D' v' hB tJ P'=>?_);refine⟨.inr (.inr (.inl (bZ _ ob fd rfl (D'.inv.base _ _ (hB _ _ g1)) g2))),?_⟩;show CB _ _ (call _ tf) _ _ _;rcases S.uU with⟨_,hh⟩ |⟨_,zv,_⟩
 ·exact CO A k vs tf B' th H' s' Q E S.xH S.deep (by have:=S.units;exact mf this) hh D'.inv D'.uv v' (Ly yN) xN.1 xN.2 P'
 ·rw[zv] at P';exact P'.elim
theorem apc{es:List CD}(NO:ia c n)(hk:k<=1)(hg:glob? nk (gF k)=true)(h:tY c n vis nk ps es):
  aO c n vis nk (.new k ps) (.Call (.Name (gF k) np) es [] pos):=λA env ρ m B μ H s Q E S D P=>by
 replace P:=s6.to P E1.new
 split at P
 ·exact P.elim
 ·rename_i vO
  refine o_eeaaaa D.uv.ns λg b n1 n2 Z Z=>r_a λn5 Z=>?_;refine Fu rfl (eg S D hg (ax g b n1 n2 (.inl (n5 k hk))) ?_);obtain⟨K,hK,KF⟩:=(D.uv.kf);refine jI h S D (aX D P λvs H' B' th s' tf e D' v' hB tJ P'=>?_);refine⟨.inr (.inr (.inr (ae K (hK.keeps λa o e=>D'.inv.base _ _ (hB _ _ e)) (KF.cls k hk)))),?_⟩;show CB _ _ (call _ tf) _ _ _
  split at P'
  ·rename_i hl
   exact NO A k vs tf B' th H' s' Q E S.xH S.deep (by have:=S.units;exact mf this) (ni S (by simpa using vO)) D'.inv D'.uv v' hl hk P'
  ·exact P'.elim
theorem afP(f:BI)(h:CF):uZ (lA f) h:=by cases f<;>first |exact .inl ⟨_,rfl⟩ |exact .inr (.inl ⟨_,rfl⟩)
theorem aoO{f:BI}{es:List CD}(hf:f≠.isInt)(hg:glob? nk (dH f)=true)(h:tY c n vis nk ps es):
  aO c n vis nk (.bi f ps) (.Call (.Name (dH f) np) es [] pos):=λA env ρ m B μ H s Q E S D P=>by
 replace P:=s6.to P E1.bi
 split at P
 ·exact P.elim
 ·rename_i vO
  refine o_eeaaaa D.uv.ns λg b n1 n2 Z Z=>r_aaa λZ Z n7 Z=>?_;refine Fu rfl (eg S D hg (ax g b n1 n2 (.inr (n7 f))) ?_);refine jI h S D (aX D P λvs H' B' th s' tf e D' v' hB tJ P'=>⟨afP f _,?_⟩);have:=adV (ni S (by simpa using vO)) D'.inv f v' P';clear hg P P';cases f<;>first |exact this |exact CI rfl hf
theorem ao4{a:PE}{tp:Pos}(hg:glob? nk "isinstance"=true)(wR:glob? nk "int"=true)(h:ul c n vis nk a l):
  aO c n vis nk (.bi .isInt (.cons a .nil)) (.Call (.Name "isinstance" np) [l,.Name "int" tp] [] pos):=λA env ρ m B μ H s Q E S D P=>by
 replace P:=s6.to P E1.bi
 split at P
 ·exact P.elim
 ·rename_i vO
  refine o_eeaaaa D.uv.ns λg b n1 n2 Z Z=>r_aaa λZ Z n7 Z=>?_;refine Fu rfl (eg S D hg (ax g b n1 n2 (.inr (n7 .isInt))) ?_)
  have yV:starEach [l,.Name "int" tp] env=[(false,eval l env),(false,eval (.Name "int" tp) env)]:=by rw[ku h.t];rfl
  refine Hx (P:=uZ (.builtin "isinstance")) (by rw[yV];rfl) (λh x=>x.wh h) ?_
  rw[yV];refine JL (Iv ?_);rw[E2.cons] at P;rw[R.bind_assoc] at P;refine h.v A env ρ m B μ H s _ E S D (aX D P λv H' B' th s' cv e D' v' hB tJ P'=>Iv ?_);refine o_eeaaaa D'.uv.ns λg b n1 n2 Z Z=>r_aaa λZ Z n7 Z=>?_;refine eg S D' wR (ax g b n1 n2 (.inr (n7 .int))) ?_;refine spliced_nil ⟨.inl ⟨_,rfl⟩,?_⟩;rw[E2.nil] at P';exact adV (ni S (by simpa using vO)) D'.inv .isInt (.cons v' .nil) P'
end
section
variable {c:tG}{n:Nat}
theorem rv{o:CD}{name:Str}{apos:Pos}{args:List CD}(hs:u7 vis nk ps args)(hn:fu o args.length apos pos=true)
  (h:CB M A (eval o env) (λov td=>∀pl,CB M A (getMethod ov name pl) (λfx tF=>CB M A (callWith pos fx.1 fx.2 (backTo pos (starEach args env)) []) Q E tF) E td) E s):
  CB M A (eval (.Call (.Attribute o name apos) args [] pos) env) Q E s:=by
 simp only[fu,Bool.and_eq_true,C3] at hn;obtain⟨⟨h1,h2⟩,h3⟩:=hn;obtain⟨p1,p2⟩:=kF hs;rw[arm_eval_Call,rE h1];refine wpAny_bind (C1 h (λov td tj=>wpAny_bind (DN ?_)) λZ Z e=>e);have yl:methodCallForm (args.length+([]:List Keyword).length) (backTo pos (starEach args env)) (backToKw pos (keywordEach [] env))=true:=by
  unfold methodCallForm;rw[p2];show(true&&true&&decide (args.length+0+0<30))=true
  simpa using h3
 have xQ:methodCallPos true o env apos pos=pure pos:=by unfold methodCallPos;simp[h2]
 unfold methodCall;rw[yl];refine wpAny_bind (Dv (C1 (tj _) (λfx tF tU=>wpAny_bind (C4 xQ tU)) λZ Z e=>e))
theorem ao7{f:MT}{o:PE}{es:List CD}(hn:fu l es.length np pos=true)(ho:aO c n vis nk o l)(h:tY c n vis nk ps es):
  aO c n vis nk (.tN f o ps) (.Call (.Attribute l (lY f) np) es [] pos):=λA env ρ m B μ H s Q E S D P=>by
 replace P:=s6.to P E1.tN
 split at P
 ·exact P.elim
 ·rename_i vO
  refine rv h.len hn (ho A env ρ m B μ H s _ E S D (aX D P λx H' B' th s' cx e D' vx hB tJ P'=>λpl=>?_))
  split at P'
  ·exact P'.elim
  ·rename_i uq
   refine ao0 D'.inv D'.uv vx (by simpa using uq) ?_;refine jI h S D' (aX D' P' λvs xL yy wN wo tf e vn Cv xx vk vG=>⟨.inl ⟨_,rfl⟩,?_⟩);exact ao6 vn.inv vn.uv (vx.mono xx vk) Cv vG
theorem aiL(h:nN v=true):∃vs,v=.inst 1 vs:=by obtain⟨c,vs,rfl,h⟩:=(adA (C:=λb=>b=true) h).resolve_right nofun;exact⟨vs,by rw[eq_of_beq h]⟩
theorem ao8{o:PE}(CO:eS c n)(hn:fu l 0 np pos=true)(ho:aO c n vis nk o l):
  aO c n vis nk (.most o) (.Call (.Attribute l "most" np) [] [] pos):=λA env ρ m B μ H s Q E S D P=>by
 replace P:=s6.to P E1.most;refine rv (vis:=vis) (nk:=nk) (ps:=.nil) rfl hn (ho A env ρ m B μ H s _ E S D (aX D P λx H' B' th s' cx e D' vx hB tJ P'=>λpl=>?_))
 split at P'
 ·rename_i atx
  clear e;obtain⟨vs,rfl⟩:=aiL atx;refine ao9 D'.inv D'.uv vx ?_;obtain⟨ob,fd,g1,g2⟩:=D'.uv.fns 40 _ _ _ rfl (by decide) (by decide) (by decide);refine Hx (P:=uZ (.ref 144)) rfl (λh x=>x.wh h) (JK ⟨.inr (.inr (.inl (bZ _ ob fd rfl (D'.inv.base _ _ g1) g2))),?_⟩);show CB _ _ (call (.ref (bK 40)) [cx]) _ _ _;rcases S.uU with⟨_,hh⟩ |⟨_,zv,_⟩
  ·exact CO A 40 _ _ B' th H' s' Q E S.xH S.deep (by have:=S.units;exact mf this) hh D'.inv D'.uv (.cons vx .nil) (by decide) (by decide) (by decide) P'
  ·rw[zv] at P';exact P'.elim
 ·exact P'.elim
end
theorem Inv.arU{w:CQ}(I:Inv prog w B U μ H h){a:Cz}{o:Obj}(hs:Dz a h h')(e:h'.get? a=some o)(hB:B.get? a=none)(hM:a∉μ)
  (hU:∀b p,U' b p->(b≠a/\U b p)\/(b=a/\p=o)):Inv prog w B U' μ H h' where
 base:=λb p q=>hs b p (by rintro rfl;rw[hB] at q;cases q) (I.base b p q)
 us:=λb p hu=>by
  rcases hU b p hu with⟨um,hu⟩ |⟨rfl,rfl⟩
  ·refine o_aaea (I.us b p hu) λg1 g2 sl g3 g4=>?_;exact(ft g1 g2 sl (hs b _ um g3) g4)
  ·exact(ft hB hM p.slots e (λZ=>rfl))
 nodup:=I.nodup
 fresh:=I.fresh
 len:=I.len
 objs:=λi b p x y=>by obtain⟨ob,g1,g2,g3⟩:=I.objs i b p x y;exact(aI ob (hs b _ (by rintro rfl;exact hM (Ea.mpr ⟨i,x⟩)) g1) g2 g3)
theorem Inv.at_{w:CQ}(I:Inv prog w B U μ H h){a:Cz}{o:Obj}(hu:U a o)(hf:Ex o):h.get? a=some o:=by refine o_aaea (I.us a o hu) λZ Z sl e q=>?_;rw[e,q hf]
inductive wn(B:CF)(μ:List Cz):AV->Nat->CF->Cz->Prop
 |list (p:Nat) (a:Cz) (j:Nat) (h:CF) (it:Cz) (hp:μ[p]?=some a) (hi:h.IsListIter it a j):wn B μ (.ref p) j h it
 |tup (vs:List AV) (a:Cz) (tf:List Cy) (j:Nat) (h:CF) (it:Cz) (hb:B.get? a=some {cls:=.type "tuple",data:=.seq tf.toArray}) (hv:tD B μ vs tf) (hi:h.IsTupleIter it a j):wn B μ (.tup vs) j h it
 |bytes (b:List UInt8) (t:Tok) (j:Nat) (h:CF) (it:Cz) (hi:IU h it b.toArray t j):wn B μ (.bytes b) j h it
 |uP (a b c:Int) (j:Nat) (h:CF) (it:Cz) (hc:0<c) (hi:IsRangeIter h it (a+j*c) (El a b c-j) c):wn B μ (.uP a b c) j h it
theorem wn.at_(x:wn B μ src j h it)(k:∀o,h.get? it=some o->h'.get? it=some o)(hB:B.StaysIn B')(tJ:Pre μ th):wn B' th src j h' it:=by
 cases x with
 |list p a _ _ _ hp hi=>exact .list p a _ _ _ (tJ _ _ hp) (o_ea hi λo e r=>(ae o (k o e) r))
 |tup vs a tf _ _ _ hb hv hi=>exact .tup vs a tf _ _ _ (hB _ _ hb) (hv.mono hB tJ) (o_ea hi λo e r=>(ae o (k o e) r))
 |bytes b t _ _ _ hi=>exact .bytes b t _ _ _ (o_ea hi λo e r=>(ae o (k o e) r))
 |uP a b c _ _ _ hc hi=>exact .uP a b c _ _ _ hc (k _ hi)
theorem wn.obj(x:wn B μ src j h it):∃o,h.get? it=some o/\d6 o:=by
 cases x with
 |list p a _ _ _ hp hi=>obtain⟨o,e,_,r⟩:=hi;exact(nz o e _ r)
 |tup vs a tf _ _ _ hb hv hi=>obtain⟨o,e,_,r⟩:=hi;exact(nz o e _ r)
 |bytes b t _ _ _ hi=>obtain⟨o,e,_,r⟩:=hi;exact(nz o e _ r)
 |uP a b c _ _ _ hc hi=>exact(nz _ hi _ rfl)
section
variable {c:tG}
theorem adO{a b cc:Int}(hc:0<cc)(j:Nat):(0<El a b cc-j)↔a+j*cc<b:=by
 unfold El;rw[CG (Ks hc)]
 split
 ·rename_i ye
  have h1:(b-a-1)/cc+1-(j:Int)>0↔(j:Int)<=(b-a-1)/cc:=by exact⟨λh=>Int.le_of_lt_add_one (Int.lt_of_sub_pos h),λh=>IT (Int.lt_add_one_of_le h)⟩
  rw[show(0<(b-a-1)/cc+1-(j:Int))↔(j:Int)<=(b-a-1)/cc from by exact(h1),Int.le_ediv_iff_mul_le hc];exact Int.le_sub_one_iff.trans ⟨Int.add_lt_of_lt_sub_left,Int.lt_sub_left_of_add_lt⟩
 ·rename_i ye
  have:0<=(j:Int)*cc:=Int.mul_nonneg adj (EJ hc);constructor<;>intro h<;>omega
@[elab_as_elim] theorem aiN{C:AV->Prop}{r:Option AV}(h:aS H src j=some r)(h1:∀p xs,az H p=some xs->C (.ref p))(h2:∀vs,C (.tup vs))(h3:∀b,C (.bytes b))(h4:∀a b c,C (.uP a b c)):C src:=by
 cases src with
 |ref p=>
  cases q:az H p with
  |none=>delta aS at h;dsimp only at h;rw[q] at h;cases h
  |some xs=>exact h1 p xs q
 |tup=>exact h2 _
 |bytes=>exact h3 _
 |uP=>exact h4 _ _ _
 |_=>cases h
theorem acj{p:Nat}{r:Option AV}(h:aS H (.ref p) j=some r):∃xs,az H p=some xs/\xs[j]?=r:=by
 cases q:az H p with
 |none=>delta aS at h;dsimp only at h;rw[q] at h;cases h
 |some xs=>delta aS at h;dsimp only at h;rw[q] at h;cases h;exact ae xs rfl rfl
theorem oE{x9:Cy}(I:Inv c.prog c.w B c.U μ H s.heap)(v:VR B μ src x9){r:Option AV}(hi:aS H src j=some r)
  (hq:∀o:Obj,wn B μ src 0 (s.heap.push o) s.heap.objs.size->Q (.ref s.heap.objs.size) {s with heap:=s.heap.push o}):CB (CA c.prog c.w) A (pyIter x9) Q E s:=by
 revert v hq;refine aiN hi (λp xs hp v hq=>?_) (λvs v hq=>?_) (λb v hq=>?_) λa b cc v hq=>?_
 ·obtain⟨a,e,ha⟩:=v.r;subst e;obtain⟨tf,n,h1,_⟩:=I.list ha hp;exact MU (cH h1) (hq _ (.list p a 0 _ _ ha (aI _ (DA _ rfl) rfl rfl)))
 ·obtain⟨a,tf,e,hb,hv⟩:=v.t;subst e;exact wpAny_pyIter_tuple (jz (I.base _ _ hb)) (hq _ (.tup vs a tf 0 _ _ hb hv (aI _ (DA _ rfl) rfl rfl)))
 ·obtain⟨t,e,hs⟩:=v.y;subst e;exact KC (hq _ (.bytes b t 0 _ _ (aI _ (DA _ rfl) rfl rfl)))
 ·refine o_eeeeaa v.g λr t u v e hr=>r_a λhs hc=>?_;subst e;refine wpAny_pyIter_range (I.base _ _ hr) hs (hq _ (.uP a b cc 0 _ _ hc ?_))
  have:(s.heap.push {cls:=.type "range_iterator",data:=.fields #[Dp a,Dp (El a b cc),Dp cc]}).get? s.heap.objs.size=some {cls:=.type "range_iterator",data:=.fields #[Dp a,Dp (El a b cc),Dp cc]}:=DA _ rfl
  show IsRangeIter _ _ _ _ _;rw[show a+((0:Nat):Int)*cc=a by simp,show El a b cc-((0:Nat):Int)=El a b cc by simp];exact this
theorem mr(hh:A.handled=none){Q:Option Cy->CC->Prop}(I:Inv c.prog c.w B c.U μ H s.heap)(x:wn B μ src j s.heap it){r:Option AV}(hi:aS H src j=some r)
  (h1:∀v cv h' t',r=some v->VR B μ v cv->wn B μ src (j+1) h' it->Dz it s.heap h'->Q (some cv) {s with heap:=h',toks:=t'})
  (h2:∀h',r=none->Dz it s.heap h'->Q none {s with heap:=h'}):CB (CA c.prog c.w) A (pyNext (.ref it)) Q E s:=by
 cases x with
 |list p a _ _ _ hp hit=>
  obtain⟨xs,hx,hi⟩:=acj hi;subst hi;obtain⟨tf,n,g1,g2,_⟩:=I.list hp hx
  cases q:xs[j]? with
  |some v=>obtain⟨cv,g3,g4⟩:=g2.get q;exact MW hit (cH g1) (by simpa using g3) λh' wF hs=>h1 v cv h' s.toks q g4 (.list p a _ _ _ hp wF) hs.extBut
  |none=>refine wpAny_pyNext_list_end hh hit (cH g1) ?_ λh' hs=>h2 h' q hs;have:=EU.mp q;rw[Ha,EU,g2.length];exact this
 |tup vs a tf _ _ _ hb hv hit=>
  cases hi
  cases q:vs[j]? with
  |some v=>obtain⟨cv,g3,g4⟩:=hv.get q;exact wpAny_pyNext_tuple_item hit (jz (I.base _ _ hb)) (by simpa using g3) λh' wF hs=>h1 v cv h' s.toks q g4 (.tup vs a tf _ _ _ hb hv wF) hs.extBut
  |none=>refine wpAny_pyNext_tuple_end hh hit (jz (I.base _ _ hb)) ?_ λh' hs=>h2 h' q hs;have:=EU.mp q;rw[Ha,EU,hv.length];exact this
 |bytes b t _ _ _ hit=>
  cases hi
  cases q:b[j]? with
  |some v=>exact KBw.next_item hit (by simpa using q) λh' wF hs=>h1 (.int v.toNat) _ h' _ (by rw[q];rfl) (.int _ _) (.bytes b t _ _ _ wF) hs.extBut
  |none=>exact KBw.next_end hh hit (by simpa using q) λh' hs=>h2 h' (by rw[q];rfl) hs
 |uP a b cc _ _ _ hc hit=>
  cases hi
  by_cases q:a+j*cc<b
  ·refine wpAny_pyNext_range_item hit ((adO hc j).mpr q) λh' wF hs=>h1 (.int (a+j*cc)) _ h' _ (by rw[CG q]) (.int _ _) (.uP a b cc _ _ _ hc ?_) hs.extBut;rw[show a+((j+1:Nat):Int)*cc=a+j*cc+cc by push_cast;rw[Int.add_mul];exact al7,show El a b cc-((j+1:Nat):Int)=El a b cc-j-1 by push_cast;exact al8];exact wF
  ·refine wpAny_pyNext_range_end hh hit ?_ λh' hs=>h2 h' (by rw[CJ q]) hs;have:¬(0<El a b cc-(j:Int)):=λh=>q ((adO hc j).mp h);exact Ee.mp this
end
noncomputable def tm.put(U:tm)(a:Cz)(o:Obj):tm:=λb p=>(b≠a/\U b p)\/(b=a/\p=o)
theorem tm.tV(U:tm)(a:Cz)(o:Obj):U.put a o a o:=.inr ⟨rfl,rfl⟩
theorem tm.tO{a b:Cz}{o p:Obj}(h:b≠a)(hu:U b p):U.put a o b p:=.inl ⟨h,hu⟩
theorem tm.uM{a:Cz}{o p:Obj}(h:U.put a o a p):p=o:=h.elim (λq=>CI rfl q.1) (·.2)
def afd(U:tm)(a:Cz):Prop:=∀p q,U a p->U a q->p=q
theorem Inv.wj{w:CQ}(I:Inv prog w B U μ H h){a:Cz}{o:Obj}(hs:Dz a h h')(e:h'.get? a=some o)(hB:B.get? a=none)(hM:a∉μ):
  Inv prog w B (U.put a o) μ H h':=I.arU hs e hB hM λb p hu=>hu
theorem mC(h:bQ vis=true){i:Nat}{y:Str}(h1:(i,x)∈vis)(h2:(j,y)∈vis):(i=j↔x=y):=by
 simp only[bQ,Bool.and_eq_true,C3] at h;obtain⟨n1,n2⟩:=h
 induction vis with
 |nil=>cases h1
 |cons p r ih=>
  simp only[DS,F8] at n1 n2;rcases CR.mp h1 with e1 |m1<;>rcases CR.mp h2 with e2 |m2
  ·rw[<-e1] at e2;clear ih h2;cases e2;simp
  ·clear h1 h2;subst e1;have a1:j∈r.map (·.1):=Dt.mpr (ae (j,y) m2 rfl);have a2:y∈r.map (·.2):=Dt.mpr (ae (j,y) m2 rfl);exact⟨λe=>CI (e▸a1) n1.1,λe=>CI (e▸a2) n2.1⟩
  ·clear h1 h2;subst e2;have a1:i∈r.map (·.1):=Dt.mpr (ae (i,x) m1 rfl);have a2:x∈r.map (·.2):=Dt.mpr (ae (i,x) m1 rfl);exact⟨λe=>CI (e▸a1) n1.1,λe=>CI (e▸a2) n2.1⟩
  ·exact ih m1 m2 n1.2 n2.2
structure Ab(oc:Bool)(env:Env)(U:tm):Prop where
 dict:∃o es ep,U env.locals o/\o.data=.dict es ep/\StrKeys es
 one:∀a,(a=env.locals\/(oc=true/\∃x,env.cells.lookup x=some a/\env.kindOf x=some .cell))->afd U a
 cell:oc=true->∀x a,env.cells.lookup x=some a->env.kindOf x=some .cell->∃o v,U a o/\o.data=.cell v
 apart:oc=true->∀x y a,env.cells.lookup x=some a->env.cells.lookup y=some a->x=y
 off:oc=true->∀x a,env.cells.lookup x=some a->a≠env.locals
section
variable {c:tG}{Q:Unit->CC->Prop}
theorem ap2{i:Nat}(I:Inv c.prog c.w B U μ H s.heap)(N:vV env vis ρ B μ U)(O:Ab oc env U)(ok:bQ vis=true)(hk:env.scope.kind=.function)
  (hx:(i,x)∈vis) (hl:env.kindOf x=some .local) (hv:v4 env x B μ v cv)
  (h:∀h' o' t',Dz env.locals s.heap h'->(∀b p,b≠env.locals->U b p->U.put env.locals o' b p)->Inv c.prog c.w B (U.put env.locals o') μ H h'->vV env vis (ρ.set i v) B μ (U.put env.locals o')->Ab oc env (U.put env.locals o')->Q () {s with heap:=h',toks:=t'}):
  CB (CA c.prog c.w) A (storeName env x cv) Q E s:=by
 obtain⟨o,es,ep,BF,hd,hks⟩:=(O.dict);refine o_aaea (I.us _ _ BF) λnB nM sl eo Z=>?_;have hn:s.heap.Ns env.locals (nsFind es):=(ce _ es ep eo hd hks (λZ=>rfl));refine wpAny_storeName_local hl hn (λh' zE hs=>?_) (by rw[hk];rfl);obtain⟨o',Ag,AL,Af,zy,zD,hf'⟩:=zE;refine h h' o' _ hs.extBut (λb p hb hu=>tm.tO hb hu) (I.wj hs.extBut Af nB nM) ?_ ?_
 ·intro j y u hj hu zd
  by_cases zA:j=i
  ·subst zA;have Cd:x=y:=(mC ok hx hj).mp rfl;clear hj;subst Cd;have:u=v:=by
    by_cases xX:j<ρ.length
    ·rw[EV xX] at hu;exact(C0 hu).symm
    ·rw[Dq (by simpa using xX)] at hu;cases hu
   clear h hu;subst this;exact(ae cv hv (.inl (rb hl o' (tm.tV _ _ _) Ag AL zy (bE zD (by rw[hf'];simp)))))
  ·rw[DH (λe=>zA e.symm)] at hu;obtain⟨cu,g1,g2⟩:=N j y u hj hu zd;have um:y≠x:=λe=>zA ((mC ok hj hx).mpr e);refine(ae cu g1 ?_);rcases g2 with⟨g3,oy,g4,Bo,ep2,g5,g6,g7⟩ |⟨g3,a,oy,g4,g5,g6,g7⟩
   ·have:oy=o:=O.one _ (.inl rfl) _ _ g4 BF;clear BF eo;subst this;rw[hd] at g5;clear g6;cases g5;refine .inl (rb g3 o' (tm.tV _ _ _) Ag AL zy (bE zD ?_));rw[hf'];show(if y=x then some cv else nsFind es y)=some cu;rw[CJ um];exact g7
   ·exact .inr (eH g3 a oy g4 (tm.tO g7 g5) g6 g7)
 ·refine⟨(bZ o' Ag AL (tm.tV _ _ _) zy zD),?_,?_,O.apart,O.off⟩
  ·rintro a (rfl |⟨ho,y,hy,Ar⟩) p q hp hq
   ·rw[tm.uM hp,tm.uM hq]
   ·have um:=O.off ho y a hy;exact O.one a (.inr (jv ho y hy Ar)) p q (hp.resolve_right λe=>um e.1).2 (hq.resolve_right λe=>um e.1).2
  ·intro ho y a hy Ar;obtain⟨oc,v',g1,g2⟩:=O.cell ho y a hy Ar;exact(bR oc v' (tm.tO (O.off ho y a hy) g1) g2)
theorem ap0{i:Nat}{a:Cz}(I:Inv c.prog c.w B U μ H s.heap)(N:vV env vis ρ B μ U)(O:Ab oc env U)(ok:bQ vis=true)(hk:env.scope.kind=.function)(ho:oc=true)
  (hx:(i,x)∈vis) (hl:env.kindOf x=some .cell) (ha:env.cells.lookup x=some a) (hv:v4 env x B μ v cv)
  (h:∀h' o',Dz a s.heap h'->(∃p,U a p)->(∀b p,b≠a->U b p->U.put a o' b p)->Inv c.prog c.w B (U.put a o') μ H h'->vV env vis (ρ.set i v) B μ (U.put a o')->Ab oc env (U.put a o')->Q () {s with heap:=h'}):
  CB (CA c.prog c.w) A (storeName env x cv) Q E s:=by
 obtain⟨o,aua,hu,hd⟩:=O.cell ho x a ha hl;refine o_aaea (I.us _ _ hu) λnB nM sl eo Z=>?_;refine wpAny_storeName_cell hk hl ha (ae _ eo hd) λh' hc hs=>?_;obtain⟨o',Af,zy⟩:=hc;refine h h' o' hs.extBut ⟨_,hu⟩ (λb p hb hu=>tm.tO hb hu) (I.wj hs.extBut Af nB nM) ?_ ?_
 ·intro j y u hj hu zd
  by_cases zA:j=i
  ·subst zA;have Cd:x=y:=(mC ok hx hj).mp rfl;clear hj;subst Cd;have:u=v:=by
    by_cases xX:j<ρ.length
    ·rw[EV xX] at hu;exact(C0 hu).symm
    ·rw[Dq (by simpa using xX)] at hu;cases hu
   clear h hu;subst this;exact(ae cv hv (.inr (eH (.inl hl) a o' ha (tm.tV _ _ _) zy (O.off ho x a ha))))
  ·rw[DH (λe=>zA e.symm)] at hu;obtain⟨cu,g1,g2⟩:=N j y u hj hu zd;have um:y≠x:=λe=>zA ((mC ok hj hx).mpr e);refine(ae cu g1 ?_);rcases g2 with⟨g3,oy,g4,g5⟩ |⟨g3,b,oy,g4,g5,g6,g7⟩
   ·exact .inl (jv g3 oy (tm.tO (O.off ho x a ha).symm g4) g5)
   ·exact .inr (eH g3 b oy g4 (tm.tO (λe=>um (O.apart ho y x b g4 (e▸ha))) g5) g6 g7)
 ·obtain⟨oL,es,ep,hL,zt,hLk⟩:=(O.dict);refine⟨(bZ oL es ep (tm.tO (O.off ho x a ha).symm hL) zt hLk),?_,?_,O.apart,O.off⟩
  ·rintro b hb p q hp hq
   by_cases zP:b=a
   ·clear ha h hu nB nM eo hs Af;subst zP;rw[tm.uM hp,tm.uM hq]
   ·exact O.one b hb p q (hp.resolve_right λe=>zP e.1).2 (hq.resolve_right λe=>zP e.1).2
  ·intro ho y b hy Ar
   by_cases zP:b=a
   ·clear ha h hu nB nM eo hs Af;subst zP;exact(bR o' _ (tm.tV _ _ _) zy)
   ·obtain⟨oc,v',g1,g2⟩:=O.cell ho y b hy Ar;exact(bR oc v' (tm.tO zP g1) g2)
end
def iZ(oc:Bool)(env:Env)(x:Str):Prop:=env.kindOf x=some .local\/(oc=true/\env.kindOf x=some .cell/\∃a,env.cells.lookup x=some a)
structure FS(oc:Bool)(prog:Program)(w:CQ)(U0:tm)(env:Env)(vis:aN)(ρ:aB)(B:CF)(μ:List Cz)(H:AH)(U:tm)(h:CF):Prop where
 inv:Inv prog w B U μ H h
 nm:vV env vis ρ B μ U
 own:Ab oc env U
 keep:∀b p,U0 b p->U b p
structure Off(oc:Bool)(U0:tm)(env:Env):Prop where
 loc:∀p,¬U0 env.locals p
 cell:oc=true->∀x a p,env.cells.lookup x=some a->env.kindOf x=some .cell->¬U0 a p
theorem FS.step{w:CQ}(F:FS oc prog w U0 env vis ρ B μ H U h)(hB:B.StaysIn B')(tJ:Pre μ th)(I:Inv prog w B' U th H' h'):
  FS oc prog w U0 env vis ρ B' th H' U h':=⟨I,F.nm.mono hB tJ,F.own,F.keep⟩
section
variable {c:tG}
theorem jL{i:Nat}{Q:Unit->CC->Prop}(F:FS oc c.prog c.w U0 env vis ρ B μ H U s.heap)(of:Off oc U0 env)(ok:bQ vis=true)(hk:env.scope.kind=.function)
  (hx:(i,x)∈vis) (hs:iZ oc env x) (hv:v4 env x B μ v cv)
  (h:∀h' U' t',FS oc c.prog c.w U0 env vis (ρ.set i v) B μ H U' h'->(∃a p o,U a p/\Dz a s.heap h'/\U'=U.put a o)->Q () {s with heap:=h',toks:=t'}):CB (CA c.prog c.w) A (storeName env x cv) Q E s:=by
 rcases hs with hl |⟨ho,hl,a,ha⟩
 ·refine ap2 F.inv F.nm F.own ok hk hx hl hv λh' o' t' g0 g1 g2 g3 g4=>h h' _ t' ⟨g2,g3,g4,λb p hu=>g1 b p (λe=>of.loc p (e▸hu)) (F.keep b p hu)⟩ ?_;obtain⟨o,_,_,hu,_⟩:=F.own.dict;exact(bZ _ o o' hu g0 rfl)
 ·exact ap0 F.inv F.nm F.own ok hk ho hx hl ha hv λh' o' g0 ⟨p0,g5⟩ g1 g2 g3 g4=>h h' _ s.toks ⟨g2,g3,g4,λb p hu=>g1 b p (λe=>of.cell ho x a p ha hl (e▸hu)) (F.keep b p hu)⟩ (bZ a p0 o' g5 g0 rfl)
theorem VR.xk(h:VR B μ v cv):v4 env x B μ v cv:=by cases v<;>first |exact h |cases h
theorem acU:∀{t:List Nat}{vs:List AV}{tf:List Cy}{elts:List CD}{xs:List Str}{ρ:aB}{U:tm}{s:CC}{Q:Unit->CC->Prop},elts.mapM dP=some xs->t.length=xs.length->dy t vs ρ=some ρ'->tD B μ vs tf->
  FS oc c.prog c.w U0 env vis ρ B μ H U s.heap->Off oc U0 env->bQ vis=true->env.scope.kind=.function->(∀i x,(i,x)∈t.zip xs->(i,x)∈vis/\iZ oc env x)->
  (∀h' U' t',FS oc c.prog c.w U0 env vis ρ' B μ H U' h'->Q () {s with heap:=h',toks:=t'})->CB (CA c.prog c.w) A (assignInOrder ((assignEach elts env).map (·.2)) tf) Q E s
 |[],vs,tf,elts,xs,ρ,U,s,Q,he,hl,hs,hv,F,of,ok,hk,hz,h=>by
  have:xs=[]:=Gw.mp hl.symm;clear hl hz;subst this;have:elts=[]:=by
   cases elts with
   |nil=>rfl
   |cons e r=>obtain⟨_,_,_,_,_,q⟩:=nT he;cases q
  clear he;subst this
  cases vs with
  |nil=>cases hs;cases hv;exact wpAny_pure (h _ _ _ F)
  |cons v vs=>cases hs
 |i::t,vs,tf,elts,xs,ρ,U,s,Q,he,hl,hs,hv,F,of,ok,hk,hz,h=>by
  cases vs with
  |nil=>cases hs
  |cons v vs=>
   obtain⟨cv1,tf,e,ze,yE⟩:=(hv.c);clear hv;subst e
   cases xs with
   |nil=>cases hl
   |cons x xs=>
    cases elts with
    |nil=>cases he
    |cons e r=>obtain⟨y,pos,ys,rfl,q2,q3⟩:=nT he;clear he;cases q3;obtain⟨h1,h2⟩:=hz i x (by simp);show CB _ _ (assignInOrder (assign (.Name x pos) env::(assignEach r env).map (·.2)) _) _ _ _;refine MK (JO (jL F of ok hk h1 h2 ze.xk λh' U' t' F' Z=>?_));exact acU (vs:=vs) q2 (by simpa using hl) hs yE F' of ok hk (λj y hm=>hz j y (by simp[hm])) h
theorem agZ(hh:A.handled=none)(xM:∀j,aS H src j=some vs[j]?):∀(k j:Nat)(s:CC)(Q:List Cy->CC->Prop),j+k<=vs.length->Inv c.prog c.w B U μ H s.heap->wn B μ src j s.heap it->B.get? it=none->it∉μ->(∀o,¬U it o)->
  (∀tf h' t',tD B μ ((vs.drop j).take k) tf->Inv c.prog c.w B U μ H h'->wn B μ src (j+k) h' it->Dz it s.heap h'->Q tf {s with heap:=h',toks:=t'})->CB (CA c.prog c.w) A (draw (.ref it) k) Q E s:=by
 intro zi
 induction zi with
 |zero=>
 exact @λj s Q hl I x n1 n2 n3 h=>by exact wpAny_pure (h [] _ _ (by rw[Ef];exact .nil) I x λZ Z Z e=>e)
 |succ k ih=>
 exact @λj s Q hl I x n1 n2 n3 h=>by
  have hj:j<vs.length:=by exact Nat.lt_of_add_right_lt hl
  refine wpAny_bind (mr (c:={c with U:=U}) hh I x (xM j) (λv cv h' t' e hv x' hs=>?_) λh' e hs=>?_)
  ·have I':=I.but hs n1 n2 n3;refine wpAny_bind (Dv (ih (j+1) {s with heap:=h',toks:=t'} _ (al9 hl) I' x' n1 n2 n3 λtf h2 t2 zH I2 x2 za=>wpAny_pure ?_));rw[List.getElem?_eq_getElem hj] at e;cases e;refine h _ h2 t2 ?_ I2 (by rw[show j+(k+1)=j+1+k by exact ama];exact x2) (λb o hb e=>za b o hb (hs b o hb e));rw[KM hj,Hf];exact .cons hv zH
  ·rw[List.getElem?_eq_getElem hj] at e;cases e
@[elab_as_elim] theorem ack{C:AV->Prop}(h:jA H v=some vs)(h1:C (.tup vs))(h2:∀p,az H p=some vs->C (.ref p)):C v:=by
 cases v with
 |tup xs=>cases h;exact h1
 |ref p=>exact h2 p h
 |_=>cases h
theorem aeL(hh:A.handled=none){n:Nat}{Q:List Cy->CC->Prop}(I:Inv c.prog c.w B U μ H s.heap)(hv:VR B μ v cv)(hi:jA H v=some vs)(hn:vs.length=n)
  (h:∀tf h' t',tD B μ vs tf->Inv c.prog c.w B U μ H h'->Q tf {s with heap:=h',toks:=t'}):CB (CA c.prog c.w) A (unpackItems cv n none) Q E s:=by
 have xM:∀j,aS H v j=some vs[j]? :=by intro j;refine ack hi rfl λp hi=>?_;delta aS;dsimp only;rw[hi]
 have hni:CB (CA c.prog c.w) A (notIterableAtAll cv) (λb s'=>b=false/\s'=s) E s:=by
  unfold notIterableAtAll;clear xM;revert hv;refine ack hi (λhv=>?_) λp hi hv=>?_
  ·obtain⟨a,tf,e,hb,hv⟩:=hv.t;subst e;refine wpAny_bind (DM (jz (I.base _ _ hb)).typeIs F.slot_tuple_iter.lookup ?_);exact wpAny_pure ⟨rfl,rfl⟩
  ·obtain⟨a,e,ha⟩:=hv.r;subst e;obtain⟨tf,n,h1,_⟩:=I.list ha hi;refine wpAny_bind (DM (cH h1).typeIs slot_list_iter.lookup ?_);exact wpAny_pure ⟨rfl,rfl⟩
 unfold unpackItems;refine wpAny_bind (C1 hni (λb s' hb=>?_) λZ Z e=>e);clear hni;obtain⟨rfl,rfl⟩:=hb;simp -iota only[Fg,Fd];refine wpAny_bind (Dv (oE (c:={c with U:=U}) I hv (xM 0) λo x=>?_));have n1:=I.xh;have n2:=I.nextM;have n3:=I.wy;have I1:=I.push o;refine wpAny_bind (Dv (agZ (s:={s' with heap:=s'.heap.push o}) hh xM n 0 _ (amb hn) I1 x n1 n2 n3 λtf h' t' yE I2 x2 za=>?_));have asY:tD B μ vs tf:=by rw[HW,EB (CZ hn)] at yE;exact yE
 have vT:tf.length=n:=by rw[asY.length,hn]
 rw[CJ (oj vT)];refine wpAny_bind (Dv (mr (c:={c with U:=U}) (s:={s' with heap:=h',toks:=t'}) hh I2 x2 (xM (0+n)) (λv cv h3 t3 e=>?_) λh3 e hs3=>?_))
 ·rw[Dq (Nat.le_trans (CZ hn) (EM ..))] at e;cases e
 ·simp -iota only[Option.isSome_none,Fg,Fd];exact wpAny_pure (h tf h3 t' asY (I2.but hs3 n1 n2 n3))
theorem uA(one:Bool)(hh:one=true\/A.handled=none){t:List Nat}{Q:Unit->CC->Prop}(he:cZ one tg=some xs)(hl:t.length=xs.length)(hb:bz H t one v ρ=some ρ')(hv:VR B μ v cv)
  (F:FS oc c.prog c.w U0 env vis ρ B μ H U s.heap) (of:Off oc U0 env) (ok:bQ vis=true) (hk:env.scope.kind=.function) (hz:∀i x,(i,x)∈t.zip xs->(i,x)∈vis/\iZ oc env x)
  (h:∀h' U' t',FS oc c.prog c.w U0 env vis ρ' B μ H U' h'->Q () {s with heap:=h',toks:=t'}):CB (CA c.prog c.w) A (assign tg env cv) Q E s:=by
 cases one with
 |true=>
  (obtain⟨x,p,zq2,zq3⟩:=ajS he;subst zq2;clear he;subst zq3)
  match t,hl with
  |[i],_=>unfold bz at hb;cases hb;obtain⟨h1,h2⟩:=hz i _ (GV _);exact JO (jL F of ok hk h1 h2 hv.xk λh' U' t' F' Z=>h h' U' t' F')
 |false=>
  have hh':A.handled=none:=hh.resolve_left (by decide);obtain⟨es,k,pos,rfl,he⟩:=rz he
  ·unfold bz at hb;obtain⟨vs,h1,h2⟩:=FK.mp hb;have hlen:vs.length=t.length:=by
    clear h1 hb;have key:∀(t:List Nat)(vs:List AV)(ρ:aB),dy t vs ρ=some ρ'->vs.length=t.length:=by
     intro t
     induction t with
     |nil=>intro vs ρ h;cases vs with
      |nil=>rfl
      |cons _ _=>cases h
     |cons i t ih=>intro vs ρ h;cases vs with
      |nil=>cases h
      |cons v vs=>exact CH (·+1) (ih vs _ h)
    exact key t vs ρ h2
   have hel:(assignEach es env).length=es.length/\(assignEach es env).findIdx? (·.1)=none/\es.length=xs.length:=by
    clear hl hz hb h1 h2 hlen;have key:∀(es:List CD)(xs:List Str),es.mapM dP=some xs->(assignEach es env).length=es.length/\(assignEach es env).findIdx? (·.1)=none/\es.length=xs.length:=by
     intro es
     induction es with
     |nil=>intro xs he;cases he;exact⟨rfl,rfl,rfl⟩
     |cons e r ih=>intro xs he;(obtain⟨y,p,ys,zq3,q2,zq5⟩:=nT he;subst zq3;clear he;subst zq5);obtain⟨g1,g2,g3⟩:=ih ys q2;refine⟨CH (·+1) g1,?_,CH (·+1) g3⟩;show List.findIdx? _ ((false,_)::assignEach r env)=none;rw[List.findIdx?_cons];simp[g2]
    exact key es xs he
   rw[Ng];refine wpAny_bind (DN ?_);unfold unpack;rw[hel.1,hel.2.1];refine wpAny_bind (Dv (aeL hh' F.inv hv h1 (by omega) λtf h' t' yE I'=>?_));exact acU he hl h2 yE ⟨I',F.nm,F.own,F.keep⟩ of ok hk hz h
end
theorem jJ(h:gY nk sc=true){k:NameKind}(hm:(x,k)∈sc.names):
  k≠.cell/\(k=.local->sc.names.lookup x=some .local)/\(k=.free->sc.names.lookup x=some .free/\(nk.lookup x=some .cell\/nk.lookup x=some .free)):=by
 have:=CV.mp h _ hm;simp only[Bool.and_eq_true,Ez,Fb,C9,ne_eq] at this;obtain⟨⟨h1,h2⟩,h3⟩:=this;exact⟨h1,λe=>h2.resolve_left (λq=>q e),λe=>h3.resolve_left (λq=>q e)⟩
theorem nW{k:NameKind}:∀{l:List (Str×NameKind)},l.lookup x=some k->(x,k)∈l:=by
 intro zi
 induction zi with
 |nil=>
 exact @λh=>by cases h
 |cons zp r ih=>
 obtain⟨y,j⟩:=zp;exact @λh=>by
  rw[EA] at h
  cases q:x==y with
  |true=>rw[q] at h;cases h;rw[C9.mp q];exact Ds
  |false=>rw[q] at h;exact Dm _ (ih h)
theorem abb(hf:gY nk sc=true)(hc:∀x,nk.lookup x=some .cell\/nk.lookup x=some .free->∃a,env.cells.lookup x=some a/\(env.kindOf x=some .cell\/env.kindOf x=some .free)):
  ∃cl,closureFor sc env=pure cl/\∀x,sc.names.lookup x=some .free->cl.lookup x=env.cells.lookup x:=by
 have key:∀(l:List (Str×NameKind))(acc:List (Str×Cz)),(∀p∈l,p.2=.free->∃a,env.cells.lookup p.1=some a)->(∀x a,acc.lookup x=some a->env.cells.lookup x=some a)->
   ∃cl,(forIn l acc (λ(x:Str×NameKind)(r:List (Str×Cz))=>(match x with |(name,kind)=>if(kind==Ik)=true then do let c<-cellOf env name;pure (Fh ((name,c)::r)) else pure (Fh r):Sem (ForInStep (List (Str×Cz))))))=pure cl/\
    (∀x a,cl.lookup x=some a->env.cells.lookup x=some a)/\(∀x,(∃a,acc.lookup x=some a)->∃a,cl.lookup x=some a)/\∀p∈l,p.2=.free->∃a,cl.lookup p.1=some a:=by
  intro l
  induction l with
  |nil=>intro acc _ h2;exact(cY acc rfl h2 (λZ h=>h) (λp hp=>by cases hp))
  |cons p l ih=>
   intro acc h1 h2;obtain⟨name,kind⟩:=p
   by_cases hk:kind=.free
   ·subst hk;obtain⟨a,ha⟩:=h1 (name,.free) Ds rfl;refine o_eaaa (ih ((name,a)::acc) (λp hp=>h1 p (Dm _ hp)) (λx b hb=>by
     rw[EA] at hb
     cases q:x==name with
     |true=>rw[q] at hb;cases hb;rw[C9.mp q];exact ha
     |false=>rw[q] at hb;exact h2 x b hb)) λcl g1 g2 g3 g4=>?_
    refine(cY cl ?_ g2 (λx hx=>g3 x ?_) (λp hp zS=>?_))
    ·rw[G8];show(do let r<-(do let c<-cellOf env name;pure (Fh ((name,c)::acc)));_)=_
     have:cellOf env name=pure a:=by unfold cellOf;rw[ha]
     rw[this];exact g1
    ·rw[EA]
     cases q:x==name with
     |true=>exact⟨a,rfl⟩
     |false=>exact hx
    ·rcases CR.mp hp with rfl |hp
     ·exact g3 name ⟨a,by rw[EA];simp⟩
     ·exact g4 p hp zS
   ·refine o_eaaa (ih acc (λp hp=>h1 p (Dm _ hp)) h2) λcl g1 g2 g3 g4=>?_;refine(cY cl ?_ g2 g3 (λp hp zS=>?_))
    ·rw[G8];have:(kind==Ik)=false:=by simpa using hk
     dsimp only;rw[this];exact g1
    ·rcases CR.mp hp with rfl |hp
     ·exact CI zS hk
     ·exact g4 p hp zS
 refine o_eaaa (key sc.names [] (λp hp zS=>by obtain⟨x,k⟩:=p;obtain⟨_,_,h3⟩:=jJ hf hp;obtain⟨a,ha,_⟩:=hc x (h3 zS).2;exact⟨a,ha⟩) (λx a h=>by cases h)) λcl g1 g2 g3 g4=>?_
 refine(ae cl ?_ (λx hx=>?_))
 ·unfold closureFor;exact(CH (λX:Sem (List (Str×Cz))=>X>>=λcs=>pure cs) g1).trans rfl
 ·obtain⟨a,ha⟩:=g4 (x,.free) (nW hx) rfl;rw[ha,g2 x a ha]
theorem nS{env:Env}{x:Str}:∀{names:List (Str×NameKind)}{k:NameKind},names.lookup x=some k->
  (names.map λ(n,k)=>if(k==Ik&&env.scope.kind==.function&&env.kindOf n==some .cell) then(n,GB) else(n,k)).lookup x=some (if(k==Ik&&env.scope.kind==.function&&env.kindOf x==some .cell) then .cell else k)
 |[],_,h=>by simp at h
 |(n,j)::r,k,h=>by
  have ih:=@nS env x r k;rw[EA] at h;rw[DS]
  cases hx:x==n with
  |true=>
   rw[hx] at h;clear ih;cases h;have e:=C9.mp hx;clear hx;subst e;dsimp only
   split<;>simp[EA]
  |false=>
   rw[hx] at h;dsimp only
   split<;>(rw[EA,hx];exact ih h)
noncomputable def clear(t:List Nat)(ρ:aB):aB:=t.foldl (λr i=>r.set i .undef) ρ
theorem aa8:∀{t:List Nat}{ρ:aB}{i:Nat}{v:AV},(clear t ρ)[i]?=some v->v≠.undef->ρ[i]?=some v/\i∉t:=by
 intro zi
 induction zi with
 |nil=>
 exact @λρ i v h Z=>⟨h,by simp⟩
 |cons j t ih=>
 exact @λρ i v h hv=>by
  obtain⟨h1,h2⟩:=ih h hv
  by_cases hj:j=i
  ·clear h2;subst hj
   by_cases hl:j<ρ.length
   ·rw[EV hl] at h1;clear h;cases h1;exact CI rfl hv
   ·rw[Dq (by simpa using hl)] at h1;cases h1
  ·rw[DH hj] at h1;exact⟨h1,by simp[h2,Dn hj]⟩
theorem lF{t:List Nat}{i:Nat}(h:i∉t):clear t (ρ.set i v)=(clear t ρ).set i v:=by
 induction t generalizing ρ with
 |nil=>rfl
 |cons j t ih=>simp only[CR,Fq] at h;show clear t ((ρ.set i v).set j .undef)=(clear t (ρ.set j .undef)).set i v;rw[Lf _ _ (h.1),ih h.2]
theorem so:∀{t:List Nat}{vs:List AV}{ρ:aB},t.Nodup->dy t vs (clear t ρ)=dy t vs ρ
 |[],vs,ρ,_=>rfl
 |i::t,[],ρ,_=>rfl
 |i::t,v::vs,ρ,hn=>by obtain⟨h1,h2⟩:=F8.mp hn;show dy t vs ((clear t (ρ.set i .undef)).set i v)=dy t vs (ρ.set i v);rw[lF h1,Ii,<-lF h1];exact so h2
theorem qw:∀{t:List Nat}{vs:List AV}{ρ ρ':aB},t.Nodup->dy t vs ρ=some ρ'->clear t ρ'=clear t ρ
 |[],[],ρ,ρ',_,h=>by cases h;rfl
 |[],_::_,ρ,ρ',_,h=>by cases h
 |i::t,[],ρ,ρ',_,h=>by cases h
 |i::t,v::vs,ρ,ρ',hn,h=>by obtain⟨h1,h2⟩:=F8.mp hn;have:=qw h2 (show dy t vs (ρ.set i v)=some ρ' from h);show clear t (ρ'.set i .undef)=clear t (ρ.set i .undef);rw[lF h1,lF h1,this,lF h1,Ii]
theorem afT{t:List Nat}(hn:t.Nodup):bz H t one v (clear t ρ)=bz H t one v ρ:=by
 cases one with
 |true=>exact so hn
 |false=>
  unfold bz;dsimp only
  cases jA H v with
  |none=>rfl
  |some vs=>exact so hn
theorem aa7{t:List Nat}(hn:t.Nodup)(h:bz H t one v ρ=some ρ'):clear t ρ'=clear t ρ:=by
 cases one with
 |true=>exact qw hn h
 |false=>unfold bz at h;obtain⟨vs,_,h⟩:=FK.mp h;exact qw hn h
section
variable {w:CQ}{R:Result->CC->Prop}
theorem agD{elt iter:CD}{ifs:List CD}{scope:Scope}{it acc:Cy}(I:Nat->CC->Prop)
  (turn:∀n s (N K3 K4:CC->Prop),(∀m s,m<n->I m s->N s)->
   (∀ue,CB (CA prog w) A (eval elt env) (λx yY=>CB (CA prog w) A (call (.builtin "list.append") [acc,x]) (λZ as9=>N as9) (λZ Z=>False) yY) (λZ Z=>False) ue->K4 ue)->
   (∀tF,CB (CA prog w) A (forIn ifs true λc r=>if r=true then do let ok<-isTrue c env (eval c env);pure (Fh ok) else pure (Fh r)) (λok ue=>if ok=true then K4 ue else N ue) (λZ Z=>False) tF->K3 tF)->I n s->
   CB (CA prog w) A (pyNext it) (λr td=>match r with
   |none=>R (.ok .next) td
   |some v=>CB (CA prog w) A (FO target it v) (λZ uV=>CB (CA prog w) A (assign target env v) (λZ tF=>K3 tF) (λZ Z=>False) uV) (λZ Z=>False) td) (λZ Z=>False) s)
  (n:Nat) (h:I n s):
  codeAny (CA prog w) A (.compLoop (.ListComp elt [⟨target,iter,ifs,0⟩] scope pos) 0 it acc env) R s:=by
 refine codeAny_loop rfl I (λn s hI=>?_) n h;show CB _ A ((compTurn (.ListComp elt [⟨target,iter,ifs,0⟩] scope pos) 0 it acc env).onRaise (λx=>do noteFrame x env;theTreesLotGoes x)) _ _ s
 refine JT ?_;rw[compTurn_list];refine wpAny_bind (DN (wpAny_bind (C1 (turn n s (λs=>∃m,m<n/\I m s) _ _ (λm Z a b=>⟨m,a,b⟩) (λZ h=>h) (λZ h=>h) hI) (λr td tj=>?_) λZ Z h'=>h'.elim)))
 cases r with
 |none=>exact wpAny_pure tj
 |some v=>
  refine wpAny_bind (C1 tj (λZ uV xd=>?_) λZ Z h'=>h'.elim);refine wpAny_bind (C1 xd (λZ tF tU=>wpAny_bind (C1 tU (λok ue vI=>?_) λZ Z h'=>h'.elim)) λZ Z h'=>h'.elim)
  cases ok with
  |false=>exact wpAny_pure ⟨rfl,vI⟩
  |true=>exact wpAny_bind (wpAny_bind (C1 vI (λx yY atG=>wpAny_bind (C1 atG (λZ as9 atH=>wpAny_pure (wpAny_pure ⟨rfl,atH⟩)) λZ Z h'=>h'.elim)) λZ Z h'=>h'.elim))
theorem rl{v:Cy}{Q:Unit->CC->Prop}(x:wn B μ src j s.heap it)(h:Q () s):CB (CA prog w) A (FO tg (.ref it) v) Q E s:=by
 have key:∀a:Cz,CB (CA prog w) A (do
   let o<-load it
   match o.cls,o.data with
   | .type n,.fields vs=>
    if(["enumerate","zip","dict_itemiterator","dict_reverseitemiterator","odict_iterator","itertools.zip_longest","itertools.pairwise"].contains n&&vs[0]?==some (Dp a))=true then do
     rule "for.unpacks-the-owned-tuple"
     updateField it 0 .none
    else pure ()
   |_,_=>pure ()) Q E s:=by
  intro a
  obtain⟨o,e,n,vs,hc,hd,hn⟩:∃o,s.heap.get? it=some o/\∃n vs,o.cls=.type n/\o.data=.fields vs/\["enumerate","zip","dict_itemiterator","dict_reverseitemiterator","odict_iterator","itertools.zip_longest","itertools.pairwise"].contains n=false:=by
   cases x with
   |list p a _ _ _ hp hi=>obtain⟨o,e,h1,h2⟩:=hi;exact(nF o e _ _ h1 h2 (by decide))
   |tup vs a tf _ _ _ hb hv hi=>obtain⟨o,e,h1,h2⟩:=hi;exact(nF o e _ _ h1 h2 (by decide))
   |bytes b t _ _ _ hi=>obtain⟨o,e,h1,h2⟩:=hi;exact(nF o e _ _ h1 h2 (by decide))
   |uP a b c _ _ _ hc hi=>exact(nF _ hi _ _ rfl rfl (by decide))
  refine wpAny_bind (Gg e ?_);rw[hc,hd];dsimp only;rw[hn,HI];exact wpAny_pure h
 cases tg with
 |Tuple _ _ _ |List _ _=>
  cases v with
  |ref a=>exact key a
  |_=>exact wpAny_pure h
 |_=>exact wpAny_pure h
end
theorem FS.turn{w:CQ}(F:FS false prog w U0 env vis ρ B μ H U h){a:Cz}{o':Obj}(um:a≠env.locals)
  (hold:∀o,h.get? a=some o->∀v,o.data≠.cell v) (nB:B.get? a=none) (nM:a∉μ) (nU:∀p,¬U0 a p) (hs:Dz a h h') (e':h'.get? a=some o'):FS false prog w U0 env vis ρ B μ H (U.put a o') h':=by
 refine⟨F.inv.wj hs e' nB nM,?_,?_,λb p hu=>tm.tO (λq=>nU p (q▸hu)) (F.keep b p hu)⟩
 ·intro i x v h1 h2 h3;obtain⟨cv,g1,g2⟩:=F.nm i x v h1 h2 h3;refine(ae cv g1 ?_);rcases g2 with⟨g3,o,g4,g5⟩ |⟨g3,b,o,g4,g5,g6,g7⟩
  ·exact .inl (jv g3 o (tm.tO um.symm g4) g5)
  ·refine .inr (eH g3 b o g4 (tm.tO ?_ g5) g6 g7);rintro rfl;refine o_aaea (F.inv.us _ _ g5) λZ Z sl e Z=>?_;exact hold _ e _ g6
 ·obtain⟨o,es,ep,g1,g2,g3⟩:=(F.own.dict);refine⟨(bZ o es ep (tm.tO um.symm g1) g2 g3),?_,λq=>(nomatch q),λq=>(nomatch q),λq=>(nomatch q)⟩
  rintro b (rfl |⟨q,_⟩) p q' hp hq
  ·exact F.own.one _ (.inl rfl) p q' (hp.resolve_right λz=>um z.1.symm).2 (hq.resolve_right λz=>um z.1.symm).2
  ·cases q
theorem FS.clear{w:CQ}{t:List Nat}(F:FS oc prog w U0 env vis ρ B μ H U h):FS oc prog w U0 env vis (Internal.clear t ρ) B μ H U h:=⟨F.inv,λi x v h1 h2 h3=>F.nm i x v h1 (aa8 h2 h3).1 h3,F.own,F.keep⟩
noncomputable def tG.tz(c:tG)(U:tm):tG:={c with U:=U}
section
variable {c:tG}{n:Nat}
theorem ahQ{w:CQ}{Q:Bool->CC->Prop}:∀(es:List CD),Q false s->
  CB (CA prog w) A (forIn es false λc r=>if r=true then do let ok<-isTrue c env (eval c env);pure (Fh ok) else pure (Fh r)) Q E s:=by
 intro zi
 induction zi with
 |nil=>
 exact @λh=>wpAny_pure h
 |cons e es ih=>
 exact @λh=>by rw[G8];simp -iota only[Fg,Fd];exact wpAny_bind (wpAny_pure (ih h))
theorem agG{es:List CD}(hs:tY c n vis nk ps es):∀(A:Around)(env:Env)(ρ:aB)(m:Nat)(B:CF)(μ:List Cz)(H:AH)(s:CC)(Q:Bool->CC->Prop)(E:Cy->CC->Prop),
  ES c A env nk n m->uX c env vis ρ B μ H s.heap->s6 c s B μ jO ((tX c.Γ ps m ρ H).bind λv H=>match v with | .bool b=>.ok (.bool b) H |_=>.bad) Q E->
  CB (CA c.prog c.w) A (forIn es true λc r=>if r=true then do let ok<-isTrue c env (eval c env);pure (Fh ok) else pure (Fh r)) Q E s:=by
 induction hs with
 |nil=>exact λA env ρ m B μ H s Q E S D P=>wpAny_pure (s6.now P D.inv rfl)
 |cons h _ ih=>
  intro A env ρ m B μ H s Q E S D P;rw[G8];refine wpAny_bind (wpAny_bind (h.b A env ρ m B μ H s _ E S D ?_));refine sK D (s6.to P aap) λb H' B' th s' e D' hB tJ P'=>wpAny_pure ?_
  cases b with
  |true=>exact ih A env ρ m B' th H' s' Q E S D' P'
  |false=>exact ahQ _ (P'.now D'.inv rfl)
def mG(c:tG)(A:Around)(src:AV):Prop:=∀(U:tm)(B:CF)(μ:List Cz)(H:AH)(s:CC)(it:Cz)(j:Nat)(Q:Option Cy->CC->Prop)(E:Cy->CC->Prop)(r:Option AV),(∀b p,c.U b p->U b p)->Inv c.prog c.w B U μ H s.heap->wn B μ src j s.heap it->aS H src j=some r->
 (∀v cv h' t',r=some v->VR B μ v cv->wn B μ src (j+1) h' it->Dz it s.heap h'->Q (some cv) {s with heap:=h',toks:=t'})->(∀h',r=none->Dz it s.heap h'->Q none {s with heap:=h'})->CB (CA c.prog c.w) A (pyNext (.ref it)) Q E s
theorem acY(hh:A.handled=none):mG c A src:=λU B μ H s it j Q E r Z I x hi h1 h2=>mr (c:=c.tz U) hh I x hi h1 h2
theorem agE{m:Nat}{cl:List (Str×Cz)}(S:ES c A env nk n (m+1))(hk:sc.kind=.function)(hf:gY nk sc=true)(vT:∀x,sc.names.lookup x=some .free->cl.lookup x=env.cells.lookup x)(hU:∀b p,c.U b p->U b p):
  ES (c.tz U) A (compEnvC sc cl C env) sc.names n m where
 kind:=hk
 glob:=S.glob
 blt:=S.blt
 Cm:=λx hx=>by show(relabel sc env).names.lookup x=_;unfold relabel;rw[nS hx];rfl
 cls:=λx hx=>by
  have u8:sc.names.lookup x=some .free:=by
   rcases hx with hx |hx
   ·exact CI rfl (jJ hf (nW hx)).1
   ·exact hx
  obtain⟨a,ha,_⟩:=S.cls x ((jJ hf (nW u8)).2.2 rfl).2;refine(ae a ((vT x u8).trans ha) ?_);show(relabel sc env).names.lookup x=_\/(relabel sc env).names.lookup x=_;unfold relabel;rw[nS u8]
  split
  ·exact .inl rfl
  ·exact .inr rfl
 xH:=⟨S.xH.1,λe he=>o_aeeaa (S.xH.2 e he) λh1 L o h2 h3 h4=>(jw h1 L o h2 (hU _ _ h3) h4)⟩
 deep:=S.deep
 units:=by have:=S.units;exact amc this
 uU:=by
  rcases S.uU with h |⟨h1,h2,x,o,vs,h3,h4,h5⟩
  ·exact .inl h
  ·exact .inr (nj h1 h2 x o vs h3 (bE (hU _ _ h4) h5))
theorem agF{m:Nat}{cl:List (Str×Cz)}{t:List Nat}(S:ES c A env nk n m)(hf:gY nk sc=true)(vT:∀x,sc.names.lookup x=some .free->cl.lookup x=env.cells.lookup x)
  (hU:∀b p,c.U b p->U b p) (nC:∀p,¬c.U C p) (N:vV env vis ρ B μ c.U):vV (compEnvC sc cl C env) (bP t xs vis sc.names) (clear t ρ) B μ U:=by
 intro i x v h1 h2 h3;obtain⟨h2,h4⟩:=aa8 h2 h3;rcases DJ.mp h1 with h1 |h1
 ·exact CI (Fy h1).1 h4
 ·obtain⟨h1,h5⟩:=Jj.mp h1;simp only[Bool.and_eq_true,C9] at h5;have u8:=h5.1;obtain⟨cv,g1,g2⟩:=N i x v h1 h2 h3;obtain⟨a,ha,hk⟩:=S.cls x ((jJ hf (nW u8)).2.2 rfl).2;have zG:env.kindOf x≠some .local:=λe=>by rw[e] at hk;rcases hk with hk |hk<;>cases hk
  refine(ae cv ?_ ?_)
  ·clear h3 h2;cases v<;>first |exact g1 |exact CI g1.2 zG
  ·rcases g2 with⟨g3,_⟩ |⟨g3,b,o,g4,g5,g6,g7⟩
   ·exact CI g3 zG
   ·refine .inr (eH ?_ b o ((vT x u8).trans g4) (hU _ _ g5) g6 ?_)
    ·show(relabel sc env).names.lookup x=_\/(relabel sc env).names.lookup x=_;unfold relabel;rw[nS u8]
     split
     ·exact .inl rfl
     ·exact .inr rfl
    ·rintro rfl;exact nC o g5
end
def gG(Γ:Ctx)(elt:PE)(t:List Nat)(one:Bool)(conds:ub)(m:Nat)(ρ:aB)(v:AV)(H:AH):R (Option AV):=match bz H t one v ρ with
 |some ρ'=>(tX Γ conds m ρ' H).bind λc H=>bN .bad c λr=>if r then(ev Γ elt m ρ' H).bind λx H=>.ok (some x) H else .ok none H
 |none=>.bad
theorem agB{t:List Nat}{m:Nat}{H2:AH}{o:Option AV}(h:gG Γ elt t one conds m ρ v H=.ok o H2):
  ∃ρ' b H1,bz H t one v ρ=some ρ'/\tX Γ conds m ρ' H=.ok (.bool b) H1/\((b=false/\o=none/\H2=H1)\/(b=true/\∃x,ev Γ elt m ρ' H1=.ok x H2/\o=some x)):=by
 unfold gG at h
 cases q:bz H t one v ρ with
 |none=>rw[q] at h;cases h
 |some ρ'=>
  rw[q] at h;dsimp only at h
  cases q2:tX Γ conds m ρ' H with
  |bad=>rw[q2] at h;cases h
  |exc k H1=>rw[q2] at h;cases h
  |ok cc H1=>
   rw[q2] at h
   cases cc with
   |bool b=>
    cases b with
    |false=>cases h;exact(bZ ρ' false _ rfl q2 (.inl ⟨rfl,rfl,rfl⟩))
    |true=>
     replace h:(ev Γ elt m ρ' H1).bind (λx H=>R.ok (some x) H)=R.ok o H2:=h
     cases q3:ev Γ elt m ρ' H1 with
     |bad=>rw[q3] at h;cases h
     |exc k H1=>rw[q3] at h;cases h
     |ok x H3=>rw[q3] at h;cases h;exact(bZ ρ' true _ rfl q2 (.inr (jv rfl x q3 rfl)))
   |_=>cases h
theorem agC{item:AH->Nat->Option (Option AV)}{f:AV->AH->R (Option AV)}:∀{k j:Nat}{acc xs:List AV}{H HF:AH},dn item f k j acc H=.ok xs HF->acc.length<=xs.length:=by
 intro zi
 induction zi with
 |zero=>
 exact @λZ Z Z Z Z h=>by cases h
 |succ k ih=>
 exact @λj acc xs H HF h=>by
  rcases abl (h:=h) with⟨_,e,_⟩ |⟨v,o,H1,_,_,h⟩
  ·subst e;exact Nat.le_refl _
  ·have:=ih h;rw[List.length_append] at this;exact Lw this
theorem aiP{w:CQ}(x:wn B μ src j s.heap it)(h:Q (.ref it) s):CB (CA prog w) A (pyIter (.ref it)) Q E s:=by
 cases x with
 |list p a _ _ _ hp hi=>exact wpAny_pyIter_listiter hi h
 |tup vs a tf _ _ _ hb hv hi=>exact wpAny_pyIter_tupleiter hi h
 |bytes b t _ _ _ hi=>exact KBw.pyIter_self hi h
 |uP a b c _ _ _ hc hi=>exact wpAny_pyIter_rangeiter hi h
section
variable {c:tG}{n:Nat}
theorem FS.w{w:CQ}(F:FS oc prog w U0 env vis ρ B μ H U h)(k:∀b p,U0' b p->U b p):FS oc prog w U0' env vis ρ B μ H U h:=⟨F.inv,F.nm,F.own,k⟩
def Got(B:CF)(μ:List Cz)(h h':CF)(v:AV)(cv:Cy):Prop:=VR B μ v cv\/∃T vs tf,v=.tup vs/\cv=.ref T/\h.get? T=none/\h'.get? T=some {cls:=.type "tuple",data:=.seq (Da tf)}/\tD B μ vs tf
structure Src(c:tG)(A:Around)(tg:CD)(it:Cz)(as:List Cz)(item:AH->Nat->Option (Option AV))(St:CF->List Cz->Nat->CF->Prop):Prop where
 at_:∀{B B':CF}{μ th:List Cz}{j:Nat}{h h':CF},St B μ j h->(∀a∈as,∀o,h.get? a=some o->h'.get? a=some o)->B.StaysIn B'->Pre μ th->St B' th j h'
 obj:∀{B:CF}{μ:List Cz}{j:Nat}{h:CF},St B μ j h->∀a∈as,∃o,h.get? a=some o/\Ex o
 self:∀{B:CF}{μ:List Cz}{j:Nat}{s:CC}{Q:Cy->CC->Prop}{E:Cy->CC->Prop},St B μ j s.heap->Q (.ref it) s->CB (CA c.prog c.w) A (pyIter (.ref it)) Q E s
 next:∀(U:tm)(B:CF)(μ:List Cz)(H:AH)(s:CC)(j:Nat)(r:Option AV)(Q:Option Cy->CC->Prop)(E E':Cy->CC->Prop),(∀b p,c.U b p->U b p)->Inv c.prog c.w B U μ H s.heap->St B μ j s.heap->item H j=some r->
  (∀v cv h' t',r=some v->Got B μ s.heap h' v cv->St B μ (j+1) h'->(∀b o,b∉as->s.heap.get? b=some o->h'.get? b=some o)->Q (some cv) {s with heap:=h',toks:=t'})->
  (∀h',r=none->(∀b o,b∉as->s.heap.get? b=some o->h'.get? b=some o)->Q none {s with heap:=h'})->
  CB (CA c.prog c.w) A (pyNext (.ref it)) (λr td=>match r with
   |none=>Q none td
   |some v=>CB (CA c.prog c.w) A (FO tg (.ref it) v) (λZ tF=>Q (some v) tF) E' td) E s
theorem Ex.ur{o:Obj}(h:Ex o)(v:Option Cy):o.data≠.cell v:=λq=>by rcases h with⟨vs,e⟩ |⟨xs,n,e⟩<;>(rw[e] at q;cases q)
theorem FS.turns{w:CQ}(F:FS false prog w U0 env vis ρ B μ H U h){as:List Cz}(hold:∀a∈as,a≠env.locals/\(∃o,h.get? a=some o/\Ex o)/\B.get? a=none/\a∉μ/\∀p,¬U0 a p)
  (hs:∀b o,b∉as->h.get? b=some o->h'.get? b=some o) (he:∀a∈as,∃o,h'.get? a=some o/\Ex o):FS false prog w U0 env vis ρ B μ H (λb p=>(b∉as/\U b p)\/(b∈as/\h'.get? b=some p)) h':=by
 have nL:env.locals∉as:=λhm=>(hold _ hm).1 rfl;refine⟨⟨λb o e=>hs b o (λhm=>by rw[(hold b hm).2.2.1] at e;cases e) (F.inv.base b o e),?_,F.inv.nodup,F.inv.fresh,F.inv.len,λi b o x y=>?_⟩,?_,?_,λb p hu=>.inl ⟨λhm=>(hold b hm).2.2.2.2 p hu,F.keep b p hu⟩⟩
 ·rintro b p (⟨hn,hu⟩ |⟨hm,e⟩)
  ·refine o_aaea (F.inv.us b p hu) λg1 g2 sl g3 g4=>?_;exact(ft g1 g2 sl (hs b _ hn g3) g4)
  ·obtain⟨_,_,g1,g2,_⟩:=hold b hm;exact(ft g1 g2 p.slots e (λZ=>rfl))
 ·obtain⟨ob,g1,g2⟩:=F.inv.objs i b o x y;exact(ae ob (hs b ob (λhm=>(hold b hm).2.2.2.1 (Ea.mpr ⟨i,x⟩)) g1) g2)
 ·intro i x v h1 h2 h3;obtain⟨cv,g1,g2⟩:=F.nm i x v h1 h2 h3;refine(ae cv g1 ?_);rcases g2 with⟨g3,o,g4,g5⟩ |⟨g3,b,o,g4,g5,g6,g7⟩
  ·exact .inl (jv g3 o (.inl ⟨nL,g4⟩) g5)
  ·refine .inr (eH g3 b o g4 (.inl ⟨λhm=>?_,g5⟩) g6 g7);(obtain⟨_,zq1,_⟩:=hold b hm;obtain⟨o',e',x'⟩:=zq1);refine o_aaea (F.inv.us _ _ g5) λZ Z sl e Z=>?_;rw[e'] at e;clear e';cases e;exact x'.ur _ g6
 ·obtain⟨o,es,ep,g1,g2,g3⟩:=(F.own.dict);refine⟨(bZ o es ep (.inl ⟨nL,g1⟩) g2 g3),?_,λq=>(nomatch q),λq=>(nomatch q),λq=>(nomatch q)⟩
  rintro b (rfl |⟨q,_⟩) p q' hp hq
  ·exact F.own.one _ (.inl rfl) p q' (hp.resolve_right λz=>nL z.1).2 (hq.resolve_right λz=>nL z.1).2
  ·cases q
theorem aia{w:CQ}(F:FS false prog w U0 env vis ρ B μ H U h')(hM:∀a∈μ,(h.get? a).isSome=true)(hU:∀a p,U a p->(h.get? a).isSome=true)
  (g:Got B μ h h' v cv):∃B',B.StaysIn B'/\VR B' μ v cv/\FS false prog w U0 env vis ρ B' μ H U h':=by
 rcases g with g |⟨T,vs,tf,rfl,rfl,e1,e2,g⟩
 ·exact(aI B (λZ Z e=>e) g F)
 ·refine o_eaa (F.inv.vJ e2 (λhm=>by have:=hM T hm;rw[e1] at this;cases this) (λp hu=>by have:=hU T p hu;rw[e1] at this;cases this)) λB' st eT J=>?_;exact(aI B' st (.tup vs T tf eT (g.mono st (Pre.refl _))) (F.step st (Pre.refl _) J))
theorem abo{m:Nat}{uR:CD}{tS:List CD}{t:List Nat}{item:AH->Nat->Option (Option AV)}{St:CF->List Cz->Nat->CF->Prop}{HF:AH}{as:List Cz}
  {cl:List (Str×Cz)} {fuel:Nat} {xV:List AV} {E:Cy->CC->Prop} {RR:Cy->Cz->Result->CC->Prop}
  (hE:∀U,ul (c.tz U) n (bP t xs vis sc.names) sc.names elt uR) (hC:∀U,tY (c.tz U) n (bP t xs vis sc.names) sc.names conds tS)
  (S:ES c A env nk n (m+1)) (hx:cZ one tg=some xs) (hl:t.length=xs.length) (uG:kj sc.names xs=true) (hk:sc.kind=.function) (hf:gY nk sc=true) (uq:bQ (bP t xs vis sc.names)=true)
  (vT:∀x,sc.names.lookup x=some .free->cl.lookup x=env.cells.lookup x) (yq:one=true\/A.handled=none) (nx:Src c A tg it as item St)
  (D:uX c env vis ρ B μ H s.heap) (x:St B μ 0 s.heap) (nA:∀a∈as,B.get? a=none/\a∉μ/\∀p,¬c.U a p)
  (total:dn item (gG c.Γ elt t one conds m ρ) fuel 0 [] H=.ok xV HF) (hlen:xV.length<=al)
  (fin:∀(D C:Cz)(B':CF)(th:List Cz)(h':CF)(t':Nat)(tf:List Cy)(nD:Nat),B.StaysIn B'->Pre μ th->Inv c.prog c.w B' c.U th HF h'->h'.get? D=some {cls:=.type "list",data:=.seq (Da tf) nD}->tD B' th xV tf->
   (B'.get? D=none/\D∉th/\∀p,¬c.U D p)->(B'.get? C=none/\C∉th/\∀p,¬c.U C p)->C≠D->(∃m,h'.Ns C m)->RR (.ref D) C (.ok .next) {s with heap:=h',toks:=t'}):
  CB (CA c.prog c.w) A (newList []) (λacc ue=>CB (CA c.prog c.w) A (newFunctionEnv sc env.globals cl [] env.qual none .none (some env)) (λasj yY=>codeAny (CA c.prog c.w) A (.compStart (.ListComp uR [⟨tg,vq,tS,0⟩] sc pos) 0 (.ref it) acc {asj with scope:=relabel sc env}) (RR acc asj.locals) yY) E ue) E s:=by
 have asF:∀y∈sc.names,y.2≠.cell:=λy hy=>(jJ hf (x:=y.1) (k:=y.2) hy).1;have Cu:t.Nodup:=by
  have h1:(bP t xs vis sc.names).map (·.1) |>.Nodup:=by simp only[bQ,Bool.and_eq_true,C3] at uq;exact uq.1
  unfold bP at h1;rw[Dr,FY (CZ hl)] at h1;exact(Jk.mp h1).1
 refine Iy (wpAny_newFunctionEnv asF (by intro y hy;simp at hy) (λtj wH wc=>?_) hk);dsimp only at wH wc⊢
 (revert wH wc;refine cX (s.heap.push {cls:=.type "list",dict:=none,data:=.seq ([]:List Cy).toArray}) λH2 xW wH wc=>?_)
 have t6:H2.objs.size=s.heap.objs.size+1:=by rw[<-xW,HN]
 have yL:H2.objs.size≠s.heap.objs.size:=by rw[t6];exact Nat.succ_ne_self _
 have old:∀b o,s.heap.get? b=some o->tj.get? b=some o:=λb o e=>by have:=Db e;exact wc.extBut b o (by rw[t6];exact CP (EC this)) (C6 _ (xW▸C6 _ e))
 have eD:tj.get? s.heap.objs.size=some {cls:=.type "list",data:=.seq ([]:List Cy).toArray}:=wc.extBut _ _ yL.symm (C6 _ (xW▸DA _ rfl))
 obtain⟨oC,es,ep,eC,dC,kC,_⟩:=id wH;have I0:=D.inv.ext old;have fresh:∀a,s.heap.objs.size<=a->B.get? a=none/\a∉μ/\∀p,¬c.U a p:=λa ha=>by
  refine⟨?_,λhm=>CS _ (Nat.lt_of_lt_of_le (D.inv.lt hm) ha),λp hu=>CS _ (Nat.lt_of_lt_of_le (D.inv.zI hu) ha)⟩
  cases q:B.get? a with
  |none=>rfl
  |some o=>exact CI (Nat.lt_of_lt_of_le (Db (D.inv.base _ _ q)) ha) (CS _)
 obtain⟨fD1,fD2,Bt⟩:=fresh s.heap.objs.size (Nat.le_refl _);obtain⟨fC1,fC2,Ah⟩:=fresh H2.objs.size (by rw[t6];exact FF _);have zq:∀a∈as,a<s.heap.objs.size:=λa ha=>by obtain⟨o,e,_⟩:=nx.obj x a ha;exact Db e
 have Bg:s.heap.objs.size∉as:=λhm=>CS _ (zq _ hm);have AI:∀a∈as,a≠H2.objs.size:=λa ha=>by rw[t6];exact CP (EC (zq a ha))
 have x1:St B μ 0 tj:=nx.at_ x (λa Z o e=>old _ _ e) (λZ Z e=>e) (Pre.refl _);have F0:FS false c.prog c.w c.U (compEnvC sc cl H2.objs.size env) (bP t xs vis sc.names) (clear t ρ) B μ H (c.U.put H2.objs.size oC) tj:=by
  refine⟨I0.wj (λb o Z e=>e) eC fC1 fC2,?_,?_,λb p hu=>tm.tO (λq=>Ah p (q▸hu)) hu⟩
  ·exact agF S hf vT (λb p hu=>tm.tO (λq=>Ah p (q▸hu)) hu) Ah D.env
  ·refine⟨(bZ oC es ep (tm.tV _ _ _) dC kC),?_,λq=>(nomatch q),λq=>(nomatch q),λq=>(nomatch q)⟩
   rintro b (rfl |⟨q,_⟩) p q' hp hq
   ·rw[tm.uM hp,tm.uM hq]
   ·cases q
 have F1:=F0.turn (a:=s.heap.objs.size) (o':={cls:=.type "list",data:=.seq ([]:List Cy).toArray}) yL.symm (λo e v q=>by rw[eD] at e;cases e;cases q) fD1 fD2 Bt (λb o Z e=>e) eD
 have F2:=F1.turns (h':=tj) (λa ha=>⟨AI a ha,nx.obj x1 a ha,nA a ha⟩) (λb o Z e=>e) (nx.obj x1);have loop:codeAny (CA c.prog c.w) A (.compLoop (.ListComp uR [⟨tg,vq,tS,0⟩] sc pos) 0 (.ref it) (.ref s.heap.objs.size) (compEnvC sc cl H2.objs.size env)) (RR (.ref s.heap.objs.size) H2.objs.size)
   {s with heap:=tj,toks:=s.toks+([]:List (Str×Cy)).length}:=by
  refine agD (λk s'=>∃j acc H1 B1 vc U1 h1 t1 tf nD,s'={s with heap:=h1,toks:=t1}/\dn item (gG c.Γ elt t one conds m ρ) k j acc H1=.ok xV HF/\B.StaysIn B1/\Pre μ vc/\
   FS false c.prog c.w c.U (compEnvC sc cl H2.objs.size env) (bP t xs vis sc.names) (clear t ρ) B1 vc H1 U1 h1/\St B1 vc j h1/\(∀a∈as,∃o,U1 a o/\Ex o)/\U1 s.heap.objs.size {cls:=.type "list",data:=.seq (Da tf) nD}/\tD B1 vc acc tf) ?_ fuel
   (dT 0 [] H B μ _ (ef tj _ [] 0 rfl total (dv (λZ Z e=>e) (Pre.refl _) F2 x1 (λa ha=>let⟨o,e,q⟩:=nx.obj x1 a ha;(ae o (.inr ⟨ha,e⟩) q)) (.inl ⟨Bg,tm.tV _ _ _⟩) (.nil))))
  intro k s' N K3 K4 hN hK4 hK3 xZ;(revert xZ;refine r_eeeeee λj acc H1 B1 vc U1=>r_eeeeaa λh1 t1 tf nD zq10 xu=>r_aaaaaa λhB tJ F x wI wD va=>?_;subst zq10)
  cases k with
  |zero=>cases xu
  |succ k=>
   have zW:∀a∈as,B1.get? a=none/\a∉vc:=λa ha=>by obtain⟨o,hu,_⟩:=wI a ha;obtain⟨b1,b2,_⟩:=F.inv.us _ _ hu;exact⟨b1,b2⟩
   rcases abl (h:=xu) with⟨hi,e,e'⟩ |⟨v,o,Be,hi,q,xu⟩
   rotate_left
   ·have zW:=zW;obtain⟨ρ',b,H3,hb,hc,wZ⟩:=agB q;refine C1 (nx.next U1 B1 vc H1 {s with heap:=h1,toks:=t1} j _ (λr tF=>match r with |none=>False |some v=>CB (CA c.prog c.w) A (assign tg (compEnvC sc cl H2.objs.size env) v) _ (λZ Z=>False) tF) (λZ Z=>False) (λZ Z=>False) F.keep F.inv x hi (λv' cv h' t' e atr x' hs=>?_) (λh' e hs=>by cases e)) (λr td tj=>by cases r with |none=>exact tj.elim |some v=>exact tj) λZ Z z=>z
    cases e;have F'0:=F.turns (λa ha=>(gM (AI a ha) (nx.obj x a ha) ((zW a ha).1) ((zW a ha).2) ((nA a ha).2.2))) hs (nx.obj x');refine o_eaa (aia (h:=h1) F'0 (λa ha=>by
      obtain⟨i,hi⟩:=Ea.mp ha;have hl:i<H1.length:=F.inv.len▸(List.getElem?_eq_some_iff.mp hi).1;obtain⟨ob,wJ,_⟩:=F.inv.objs i a H1[i] hi (List.getElem?_eq_getElem hl);rw[wJ];rfl) (λa p hu=>by
      rcases hu with⟨_,hu⟩ |⟨ha,_⟩
      ·refine o_aaea (F.inv.us _ _ hu) λZ Z sl e Z=>?_;rw[e];rfl
      ·obtain⟨o,e,_⟩:=nx.obj x a ha;rw[e];rfl) atr) λB2 uW hv F'=>?_
    have x'2:St B2 vc (j+1) h':=nx.at_ x' (λZ Z Z e=>e) uW (Pre.refl _)
    let W:tm:=λb p=>c.U b p\/(b=s.heap.objs.size/\p={cls:=.type "list",data:=.seq (Da tf) nD})\/(b∈as/\h'.get? b=some p)
    have FW:FS false c.prog c.w W (compEnvC sc cl H2.objs.size env) (bP t xs vis sc.names) (clear t ρ) B2 vc H1 _ h':=F'.w λb p hu=>by
     rcases hu with hu |⟨rfl,rfl⟩ |hu
     ·exact F'.keep b p hu
     ·exact .inl ⟨Bg,wD⟩
     ·exact .inr hu
    have atM:Off false W (compEnvC sc cl H2.objs.size env):=⟨λp hu=>by
     rcases hu with hu |⟨q,_⟩ |⟨q,_⟩
     ·exact Ah p hu
     ·exact yL q
     ·exact AI _ q rfl,λq=>(nomatch q)⟩
    refine uA (s:={s with heap:=h',toks:=t'}) one yq hx hl (by rw[afT Cu];exact hb) hv FW atM uq hk (λi y hm=>?_) λh3 U3 t3 F3=>?_
    ·refine⟨Gy _ hm,.inl ?_⟩;have hy:=(Fy hm).2;have:=CV.mp uG y hy;exact lookup_relabel_local (C9.mp this)
    have AN:B.StaysIn B2:=λZ Z e=>uW _ _ (hB _ _ e);have hU3:∀b p,c.U b p->U3 b p:=λb p hu=>F3.keep b p (.inl hu);have D3:uX (c.tz U3) (compEnvC sc cl H2.objs.size env) (bP t xs vis sc.names) ρ' B2 vc H1 h3:=⟨F3.inv,F3.nm,D.uv.mono AN⟩;have S3:=agE (C:=H2.objs.size) S hk hf vT hU3;have Cw:∀a∈as,∃o,U3 a o/\Ex o/\h'.get? a=some o:=λa ha=>let⟨o,e,q⟩:=nx.obj x' a ha;(aI o (F3.keep a o (.inr (.inr ⟨ha,e⟩))) q e);have arJ:∀{B:CF}{μ:List Cz}{H:AH}{h:CF},Inv c.prog c.w B U3 μ H h->∀a∈as,∀o,h'.get? a=some o->h.get? a=some o:=λI a ha o e=>by obtain⟨o',w',q',e'⟩:=Cw a ha;rw[e'] at e;clear e';cases e;exact I.at_ w' q'
    refine hK3 _ ?_;refine agG (hC U3) A _ ρ' m B2 vc H1 {s with heap:=h3,toks:=t3} _ _ S3 D3 ?_;rw[show(c.tz U3).Γ=c.Γ from rfl,hc];intro B4 y5 h4 t4 b' wQ vm I4 wY;obtain rfl:b'=b:=by cases wY;rfl
    have F4:FS false c.prog c.w W (compEnvC sc cl H2.objs.size env) (bP t xs vis sc.names) ρ' B4 y5 H3 U3 h4:=F3.step wQ vm I4;have x4:St B4 y5 (j+1) h4:=nx.at_ x'2 (arJ I4) wQ vm;have va4:=(va.mono (λZ Z e=>wQ _ _ (uW _ _ e)) vm);clear q hc wY;rcases wZ with⟨rfl,rfl,rfl⟩ |⟨rfl,y,hy,rfl⟩
    ·
     simp only[Fg,Fd];refine hN k _ (DU _) (iP (j+1) acc Be B4 (dT y5 U3 h4 t4 tf nD (dv rfl ?_ (λZ Z e=>wQ _ _ (AN _ _ e)) (tJ.trans vm) ?_ x4 (bT (λa ha=>o_eaa (Cw a ha) λo w' q' Z=>(ae o w' q')) (F3.keep _ _ (.inr (.inl ⟨rfl,rfl⟩))) va4))))
     ·simpa using xu
     ·have:=(F4.w (U0':=c.U) λb p hu=>F4.keep b p (.inl hu)).clear (t:=t);rw[aa7 Cu hb] at this;exact this
    ·simp only[if_true];have D4:uX (c.tz U3) (compEnvC sc cl H2.objs.size env) (bP t xs vis sc.names) ρ' B4 y5 H3 h4:=⟨I4,F4.nm,(D.uv.mono AN).mono wQ⟩;refine hK4 _ ?_;refine(hE U3).v A _ ρ' m B4 y5 H3 {s with heap:=h4,toks:=t4} _ _ S3 D4 ?_;rw[show(c.tz U3).Γ=c.Γ from rfl,hy];intro B5 y6 h5 t5 cy xn vB I5 vy;have F5:FS false c.prog c.w W (compEnvC sc cl H2.objs.size env) (bP t xs vis sc.names) ρ' B5 y6 Be U3 h5:=F4.step xn vB I5
     have wD5:=F3.keep s.heap.objs.size {cls:=.type "list",data:=.seq (Da tf) nD} (.inr (.inl ⟨rfl,rfl⟩))
     have zM:=I5.at_ wD5 (.inr (cK _ _ rfl));have va5:=va4.mono xn vB;have asL:acc.length+1<=xV.length:=by
      have:=agC xu
      simpa using this
     rw[dN] at hlen;refine Hy JA (ae _ zM rfl) L7 (L6 _ _) (Ml s.heap.objs.size tf.toArray nD cy (by rw[De,fF,va5.length];exact Nat.le_trans (CN asL) hlen)) ⟨zM,?_⟩;have e6:=JC (l:=s.heap.objs.size) zM (λx=>x.push cy);obtain⟨Ax,hnD⟩:∃Ax,Ax=(if(tf.toArray.push cy).size==tf.toArray.size then nD else nD+1):=⟨_,rfl⟩
     replace e6:(h5.update s.heap.objs.size (GJ λx=>x.push cy)).get? s.heap.objs.size=some {cls:=.type "list",data:=.seq (Da (tf++[cy])) Ax}:=by rw[hnD,<-Ig];exact e6
     obtain⟨d1,d2,_⟩:=I5.us _ _ wD5;have F6:=(F5.w (U0':=c.U) λb p hu=>F5.keep b p (.inl hu)).turn (a:=s.heap.objs.size) yL.symm (λo e v q=>by rw[zM] at e;cases e;cases q) d1 d2 Bt (Gr ..).extBut e6;have F7:=F6.clear (t:=t);rw[aa7 Cu hb] at F7;have neD:∀a∈as,a≠s.heap.objs.size:=λa ha=>CP (zq a ha)
     refine hN k _ (DU _) (iP (j+1) (acc++[y]) Be B5 (dT y6 (U3.put s.heap.objs.size {cls:=.type "list",data:=.seq (Da (tf++[cy])) Ax}) (h5.update s.heap.objs.size (GJ λx=>x.push cy)) t5 (tf++[cy]) Ax (dv rfl xu (λZ Z e=>xn _ _ (wQ _ _ (AN _ _ e))) ((tJ.trans vm).trans vB) F7 ?_ (bT (λa ha=>let⟨o,w',q',_⟩:=Cw a ha;(ae o (tm.tO (neD a ha) w') q')) (tm.tV _ _ _) (va5.append (.cons vy .nil))))))
     refine nx.at_ x'2 (λa ha o e=>(Ed _ _ (neD a ha).symm).trans (arJ I5 a ha o e)) (λZ Z e=>xn _ _ (wQ _ _ e)) (vm.trans vB)
   ·subst e e';refine C1 (nx.next U1 B1 vc HF {s with heap:=h1,toks:=t1} j _ (λr tF=>match r with |none=>RR (.ref s.heap.objs.size) H2.objs.size (.ok .next) tF |some v=>False) (λZ Z=>False) (λZ Z=>False) F.keep F.inv x hi (λv' cv h' t' e hv x' hs=>by cases e) (λh' e hs=>?_)) (λr td tj=>by
     cases r with
     |none=>exact tj
     |some v=>exact C1 tj (λZ Z z=>z.elim) λZ Z z=>z) λZ Z z=>z
    have I':Inv c.prog c.w B1 c.U vc HF h':=(F.inv.less F.keep).other λb o e q=>hs b o (λhm=>by
     rcases q with q |q |⟨u,q⟩
     ·rw[(zW b hm).1] at q;cases q
     ·exact(zW b hm).2 q
     ·exact(nA b hm).2.2 u q) e
    have zM:=F.inv.at_ wD (.inr (cK _ _ rfl));obtain⟨d1,d2,_⟩:=F.inv.us _ _ wD;obtain⟨oL,esL,epL,wL,dL,kL⟩:=(F.own.dict);refine o_aaea (F.inv.us _ _ wL) λl1 l2 sl eL Z=>?_;exact fin _ _ B1 vc h' t1 tf nD hB tJ I' (hs _ _ Bg zM) va ⟨d1,d2,Bt⟩ ⟨l1,l2,Ah⟩ yL (ef _ _ esL epL (hs _ _ (λhm=>AI _ hm rfl) eL) dL (bE kL (λZ=>rfl)))
 exact codeAny_compStart_list loop (nx.self x1 loop)
theorem apH(nx:mG c A src):Src c A tg it [it] (λH j=>aS H src j) (λB μ j h=>wn B μ src j h it) where
 at_:=λx k hB tJ=>x.at_ (k it (by simp)) hB tJ
 obj:=λx a ha=>by rw[DD.mp ha];obtain⟨o,e,f⟩:=x.obj;exact(ae o e (.inl f))
 self:=λx q=>aiP x q
 next:=λU B μ H s j r Q E E' hU I x hi h1 h2=>nx U B μ H s it j _ E r hU I x hi (λv cv h' t' e hv x' hs=>rl x' (h1 v cv h' t' e (.inl hv) x' λb o hb=>hs b o (by simpa using hb))) λh' e hs=>h2 h' e λb o hb=>hs b o (by simpa using hb)
end
variable {w:CQ}
theorem ahi:entryFor table "proto.unchain"=some Builtin.«proto.unchain»:=entryFor_of_fast (by kernel_rfl)
section
theorem ajd{l x:Cz}{i:Nat}{items:Array Cy}{ox:Obj}{vs:Array Cy}{Q:Option Cy->CC->Prop}(hh:A.handled=some (.ref x))(ex:s.heap.get? x=some ox)(dx:ox.data=.fields vs)(h2:vs[2]?=some .none)
  (hit:s.heap.IsListIter it l i) (hl:s.heap.IsList l items) (hx:items[i]?=none) (um:x≠it)
  (hQ:∀h',Dz it s.heap h'->Q none {s with heap:=h'}):CB (CA prog w) A (pyNext (.ref it)) Q E s:=by
 obtain⟨o,ho,hc,hd⟩:=id hit;obtain⟨ol,Cb,_,nl,yO⟩:=hl;unfold pyNext
 refine wpAny_bind (JP (ML (name:=Et "__next__") hit.typeIs MJ
  (Ix MJ hit.typeIs entry_listiter_next ?_ (args_listiter_next _))))
 show CB _ _ (field (.ref it) 0>>=_) _ _ s;refine wpAny_bind (EI ho hd (x:=.ref l) rfl ?_);show CB _ _ (if(Di l==Dh)=true then _ else _) _ _ s
 rw[CJ (show ¬((Di l==Dh)=true) from HJ)];show CB _ _ (field (.ref it) 1>>=_) _ _ s;refine wpAny_bind (EI ho hd (x:=.int i 0) rfl ?_);show CB _ _ (seqItems? (.ref l)>>=_) _ _ s;refine wpAny_bind (wpAny_seqItems Cb yO ?_);simp only[DQ,hx];refine wpAny_bind (HC (wpAny_bind (Gi ho hd (by simp) ?_)))
 show CB _ _ (newExc (.type "StopIteration") []>>=_) _ _ _
 refine wpAny_bind ?_;simp only[newExc,newTuple];refine wpAny_bind (Iy ?_ (by size_fits));refine wpAny_bind (m:=firstArgMember _ _) (C4 (a:=Dh) (by first |rfl |(simp only[firstArgMember];rfl)) ?_)
 refine Iy ?_ (by size_fits);show CB _ _ (handled>>=_) _ _ _;refine wpAny_bind (wpAny_handled ?_);rw[show A.in1.handled=some (.ref x) from hh];dsimp only;refine cX (s.heap.update it _) λh1 hS=>?_;have sb:Km it s.heap h1:=by rw[<-hS];exact Gr ..
 have xS:x<s.heap.objs.size:=Db ex;have t6:h1.objs.size=s.heap.objs.size:=by rw[<-hS];exact CF.size_update ..
 refine cX (h1.push {cls:=.type "tuple",data:=.seq #[]}) λyd hT=>?_
 have hT2:yd.objs.size=h1.objs.size+1:=by rw[<-hT,HN]
 refine cX (({cls:=Fp "StopIteration",data:=Data.fields (#[Di h1.objs.size,Dh,Dh,Dh,Ms false,Dh]++ownMembersOf (Fp "StopIteration") [])}:Obj)) λoe hO=>?_
 have eX:(yd.push oe).get? x=some ox:=C6 _ (by rw[<-hT];exact C6 _ ((sb.2 x um).trans ex));have eE:(yd.push oe).get? yd.objs.size=some oe:=DA _ (by rw[<-hO];rfl);have hxe:x≠yd.objs.size:=by rw[hT2,t6];exact CP (EC xS)
 rw[CG (by simpa using hxe)];refine wpAny_bind (Dv (wpAny_runValue (JH ahi ?_)));show CB _ _ (field (.ref x) 2>>=_) _ _ _;refine wpAny_bind (EI eX dx (x:=.none) h2 ?_);show CB _ _ (ret .none>>=λr=>pure r) _ _ _;refine wpAny_bind (wpAny_pure (wpAny_pure ?_));show CB _ _ (setField (.ref yd.objs.size) 2 (.ref x)>>=_) _ _ _
 refine wpAny_bind (Gi eE (show oe.data=.fields (#[Di h1.objs.size,Dh,Dh,Dh,Ms false,Dh]++ownMembersOf (Fp "StopIteration") []) by rw[<-hO]) (Nat.le_of_ble_eq_true (by kernel_rfl)) ?_)
 refine wpAny_throw ?_
 refine wpAny_bind (GN (T:="StopIteration") (b:=true) (ae _ (Em _ eE (by rw[<-hO];rfl)) (by rw[<-hO];rfl)) isSubtype_stop ?_)
 refine wpAny_pure (hQ _ λb o hb e=>?_);have:b<s.heap.objs.size:=Db e;refine(Ed _ _ ?_).trans (C6 _ (by rw[<-hT];exact C6 _ ((sb.2 b hb).trans e)));rw[hT2,t6];exact(CP (EC this)).symm
end
theorem rH{e:CD}(h:TE vis nk pe e)(env:Env)(x:Cy):foldedSetIterable e env x=pure x:=h.nice.iter env x
theorem Inv.adopt(I:Inv prog w B U μ H h){a:Cz}{o:Obj}(e:h.get? a=some o)(nB:B.get? a=none)(nM:a∉μ)(nU:∀p,¬U a p)(ho:OR B μ prog w ao o)(hf:¬d6 o):
  Inv prog w B U (μ++[a]) (H++[ao]) h:=by
 refine⟨I.base,λb p hu=>?_,?_,λb hb=>?_,by simp[I.len],λi b p x y=>?_⟩
 ·obtain⟨g1,g2,g3⟩:=I.us b p hu;refine⟨g1,λhm=>?_,g3⟩;rcases DJ.mp hm with hm |hm
  ·exact g2 hm
  ·rw[DD.mp hm] at hu;exact nU p hu
 ·rw[Jk];refine⟨I.nodup,by simp,λx hx y hy=>?_⟩;rw[DD.mp hy];rintro rfl;exact nM hx
 ·rcases DJ.mp hb with hb |hb
  ·exact I.fresh b hb
  ·rw[DD.mp hb];exact nB
 ·by_cases hi:i<μ.length
  ·rw[D6 hi] at x;rw[D6 (I.len▸hi)] at y;obtain⟨ob,g1,g2,g3⟩:=I.objs i b p x y;exact(aI ob g1 (g2.mono (λZ Z e=>e) (Pre.snoc _ _)) g3)
  ·have BR:i=μ.length:=by
    have:=(List.getElem?_eq_some_iff.mp x).1;rw[List.length_append,K6] at this;exact Lv this hi
   clear hi;subst BR;rw[FU (Nat.le_refl _),FH] at x;rw[I.len,FU (Nat.le_refl _),FH] at y;cases x;cases y;exact(aI o e (ho.mono (λZ Z e=>e) (Pre.snoc _ _)) hf)
theorem R.uA(a:α)(H:AH)(f:α->AH->R β):(R.ok a H).bind f=f a H:=rfl
theorem abm{item:AH->Nat->Option (Option AV)}{f:AV->AH->R (Option AV)}:∀(k j:Nat)(acc:List AV)(H:AH),(∃xs HF,dn item f k j acc H=.ok xs HF)\/dn item f k j acc H=.bad:=by
 intro zi
 induction zi with
 |zero=>
 exact @λZ Z Z=>.inr rfl
 |succ k ih=>
 exact @λj acc H=>by
  rw[Aa.s]
  cases item H j with
  |none=>exact .inr rfl
  |some r=>
   cases r with
   |none=>exact .inl (cK _ _ rfl)
   |some v=>
    dsimp only
    cases f v H with
    |ok=>exact ih _ _ _
    |exc=>exact .inr rfl
    |bad=>exact .inr rfl
section
variable {c:tG}{n:Nat}
set_option tactic.hygienic true in
theorem ajY{p:Nat}(h:Hnd A c):mG c A (.ref p):=by
 rcases h with⟨_,h⟩ |⟨_,_,x,o,vs,hx,hu,hd,h2⟩
 ·exact acY h
 ·intro U B μ H s it j Q E r hU I xI hi h1 yd;have ex:=I.at_ (hU _ _ hu) (.inl ⟨vs,hd⟩);cases xI with |list _ a _ _ _ hp hit=>
  obtain⟨xs,xS,hi⟩:=acj hi;subst hi;obtain⟨tf,n,g1,g2,_⟩:=I.list hp xS
  cases q:xs[j]? with
  |some v=>obtain⟨cv,g3,g4⟩:=g2.get q;exact MW hit (cH g1) (by simpa using g3) λh' wF hs=>h1 v cv h' s.toks q g4 (.list p a _ _ _ hp wF) hs.extBut
  |none=>
   refine ajd hx ex hd h2 hit (cH g1) ?_ ?_ λh' hs=>yd h' q hs
   ·have:=EU.mp q;rw[Ha,EU,g2.length];exact this
   ·rintro rfl;obtain⟨oi,ei,_,di⟩:=hit;rw[ex] at ei;cases ei;rw[hd] at di;clear hd;cases di;cases h2
theorem abp{m:Nat}{it:PE}{uR:CD}{tS:List CD}{t:List Nat}{atI:Pos}
  {use:Option (Cy->Sem Unit)} {Q₁:Cy->CC->Prop}
  (hI:aO c n vis nk it vq) (tI:TE vis nk it vq) (hE:∀U,ul (c.tz U) n (bP t xs vis sc.names) sc.names elt uR) (hC:∀U,tY (c.tz U) n (bP t xs vis sc.names) sc.names conds tS)
  (S:ES c A env nk n (m+1)) (hx:cZ one tg=some xs) (hl:t.length=xs.length) (uG:kj sc.names xs=true) (hk:sc.kind=.function) (hf:gY nk sc=true) (uq:bQ (bP t xs vis sc.names)=true)
  (D:uX c env vis ρ B μ H s.heap) (P:s6 c s B μ VR (ev c.Γ (.comp elt t one it .nil conds) (m+1) ρ H) Q₁ E)
  (hQ:∀(D C:Cz)(s2:CC)(B2:CF)(vF:List Cz)(H2:AH)(v:AV),ev c.Γ (.comp elt t one it .nil conds) (m+1) ρ H=.ok v H2->B.StaysIn B2->Pre μ vF->Inv c.prog c.w B2 c.U vF H2 s2.heap->VR B2 vF v (.ref D)->(∃m,s2.heap.Ns C m)->(B2.get? C=none/\C∉vF/\∀p,¬c.U C p)->
   (∀h',Km C s2.heap h'->Q₁ (.ref D) {s2 with heap:=h'})->compPost (CA c.prog c.w) A E use Q (.ref D) C (.ok .next) s2):
  CB (CA c.prog c.w) A (comprehension (.ListComp uR [⟨tg,vq,tS,0⟩] sc pos) sc env atI (newList []) false (eval vq env) use) Q E s:=by
 obtain⟨cl,yi,vT⟩:=abb hf S.cls;refine MM rfl (λx=>rH tI env x) yi hk (λy hy e=>(jJ hf (x:=y.1) (k:=y.2) hy).2.1 e) ?_;replace P:=s6.to P E1.comp;refine hI A env ρ (m+1) B μ H s _ E S D (aX D P λsrc H' B' th s' x9 e D' atV hB tJ P'=>?_);rw[E2.nil] at P';replace P':s6 c s' B' th VR (if(c.Γ.hd&& !(ff src&&([]:List AV).isEmpty&&one))=true then .bad else
   (dn (λH j=>aS H src j) (gG c.Γ elt t one conds m ρ) (cJ H' src+1) 0 [] H').bind λxs H=>cn xs H) Q₁ E:=P'
 split at P'
 ·exact P'.elim
 ·rename_i vO
  rcases abm (item:=λH j=>aS H src j) (f:=gG c.Γ elt t one conds m ρ) (cJ H' src+1) 0 [] H' with⟨xV,HF,xu⟩ |bad
  ·rw[xu] at P';replace P':s6 c s' B' th VR (cn xV HF) Q₁ E:=P';have hi:∃r,aS H' src 0=some r:=by
    cases q:aS H' src 0 with
    |some r=>exact⟨r,rfl⟩
    |none=>rw[Aa.s] at xu;rw[q] at xu;cases xu
   obtain⟨r,hi⟩:=hi;unfold cn at P'
   split at P'
   ·rename_i hlen
    refine oE D'.inv atV hi λo x=>?_;have nB:=D'.inv.xh;have nM:=D'.inv.nextM;have nU:=D'.inv.wy;have D1:uX c env vis ρ B' th H' (s'.heap.push o):=⟨D'.inv.push o,D'.env,D'.uv⟩;have yq:one=true\/A.handled=none:=by
     rcases S.uU with⟨_,h⟩ |⟨h,_⟩
     ·exact .inr h
     ·rw[h] at vO;have hX:(ff src&&([]:List AV).isEmpty&&one)=true:=by
       cases q:(ff src&&([]:List AV).isEmpty&&one) with
       |true=>rfl
       |false=>exact CI (by rw[q];rfl) vO
      exact .inl (Ff.mp hX).2
    have nx:mG c A src:=by
     rcases S.uU with⟨_,h⟩ |⟨h,_⟩
     ·exact acY h
     ·rw[h] at vO;have hX:(ff src&&([]:List AV).isEmpty&&one)=true:=by
       cases q:(ff src&&([]:List AV).isEmpty&&one) with
       |true=>rfl
       |false=>exact CI (by rw[q];rfl) vO
      have hR:=(Ff.mp (Ff.mp hX).1).1
      cases src with
      |ref p=>exact ajY S.uU
      |_=>cases hR
    refine abo (s:={s' with heap:=s'.heap.push o}) (RR:=compPost (CA c.prog c.w) A E use Q) hE hC S hx hl uG hk hf uq vT yq (apH nx) D1 x (λa ha=>by rw[DD.mp ha];exact⟨nB,nM,nU⟩) xu hlen ?_;intro D C B2 vF h2 t2 tf nD uW ud I2 eD vD fD fC yL zu;have J:=I2.adopt eD fD.1 fD.2.1 fD.2.2 (ao:=.list xV) (ax tf nD rfl vD hlen) (jC rfl);have vr:VR B2 (vF++[D]) (.ref HF.length) (.ref D):=.ref _ _ (kt I2.len);have nC:C∉vF++[D]:=λhm=>(DJ.mp hm).elim fC.2.1 λq=>yL (DD.mp q);have zQ:ev c.Γ (.comp elt t one it .nil conds) (m+1) ρ H=.ok (.ref HF.length) (HF++[.list xV]):=by
     rw[E1.comp];show(ev c.Γ it (m+1) ρ H).bind _=_;rw[e,R.uA];rw[E2.nil];rw[R.uA];show(if(c.Γ.hd&& !(ff src&&([]:List AV).isEmpty&&one))=true then .bad else(dn (λH j=>aS H src j) (gG c.Γ elt t one conds m ρ) (cJ H' src+1) 0 [] H').bind λxs H=>cn xs H)=_
     rw[CJ vO,xu,R.uA];unfold cn;rw[CG hlen]
    refine hQ D C _ B2 (vF++[D]) (HF++[.list xV]) (.ref HF.length) zQ (λZ Z q=>uW _ _ (hB _ _ q)) ((tJ.trans ud).trans (Pre.snoc _ _)) J vr zu ⟨fC.1,nC,fC.2.2⟩ λh' hs=>?_;exact P' B2 _ h' t2 _ uW (ud.trans (Pre.snoc _ _)) (J.but hs.extBut fC.1 nC fC.2.2) vr
   ·exact P'.elim
  ·rw[bad] at P';exact P'.elim
theorem aoU{it:PE}{uR:CD}{tS:List CD}{t:List Nat}
  (hI:aO c n vis nk it vq) (tI:TE vis nk it vq) (hE:∀U,ul (c.tz U) n (bP t xs vis sc.names) sc.names elt uR) (hC:∀U,tY (c.tz U) n (bP t xs vis sc.names) sc.names conds tS)
  (hx:cZ one tg=some xs) (hl:t.length=xs.length) (uG:kj sc.names xs=true) (hk:sc.kind=.function) (hf:gY nk sc=true) (uq:bQ (bP t xs vis sc.names)=true):
  aO c n vis nk (.comp elt t one it .nil conds) (.ListComp uR [⟨tg,vq,tS,0⟩] sc pos):=λA env ρ m B μ H s Q E S D P=>by
 cases m with
 |zero=>replace P:=s6.to P E1.arW;exact P.elim
 |succ m=>rw[eval_ListComp];show CB _ _ (comprehension _ sc env _ (newList []) false (eval vq env) none) _ _ _;exact abp (use:=none) hI tI hE hC S hx hl uG hk hf uq D P λD C s2 B2 vF H2 v Z Z Z Z Z zu Z h=>let⟨m,hm⟩:=zu;(ae m hm h)
end
theorem rk(h:lW sc=true):sc.kind=.function:=by simp only[lW,Bool.and_eq_true] at h;obtain⟨⟨⟨h,_⟩,_⟩,_⟩:=h;cases q:sc.kind<;>rw[q] at h<;>first |rfl |cases h
def hV(c:tG)(n:Nat):Prop:=∀(U:tm)(vis:aN)(nk:aP)(i j1 j2:Nat)(x:Str)(np pos:Pos),(i,x)∈vis->fw x=true->(j1,("width":Str))∈vis->(j2,("height":Str))∈vis->
 aO (c.tz U) n vis nk (.tB i [j1,j2]) (.Call (.Name x np) [] [] pos)
def iC(c:tG)(n:Nat):Prop:=∀(U:tm)(vis:aN)(nk:aP)(elt:PE)(t:List Nat)(one:Bool)(it xG:PE)(conds:ub)(uR tg vq yW:CD)(tS:List CD)(sc:Scope)(pos:Pos)(xs:List Str)(np zp:Pos),
 (∀U,ul (c.tz U) n vis nk it vq)->(∀U,ul (c.tz U) n vis nk xG yW)->glob? nk "zip"=true->one=false->cZ one tg=some xs->t.length=xs.length->kj sc.names xs=true->lW sc=true->(gY nk sc&&bQ (bP t xs vis sc.names))=true->
 (∀U,ul (c.tz U) n (bP t xs vis sc.names) sc.names elt uR)->(∀U,tY (c.tz U) n (bP t xs vis sc.names) sc.names conds tS)->
 aO (c.tz U) n vis nk (.comp elt t one it (.cons xG .nil) conds) (.ListComp uR [⟨tg,.Call (.Name "zip" np) [vq,yW] [] zp,tS,0⟩] sc pos)
section
variable {c:tG}{n:Nat}
theorem aaN{c:tG}{e:CD}(t:TE vis nk pe e)(h:aO c n vis nk pe e)(he:∀env whole,isTrue e env whole=(do let v<-whole;standAt e.pos;holding [v] (truthy v))):ul c n vis nk pe e:=⟨t,h,aql h he⟩
theorem ah4{c:tG}(hg:glob? nk (eG k)=true)(hk:k<=5):aO c n vis nk (.glob k) (.Name (eG k) pos):=λA env ρ m B μ H s Q E S D P=>by replace P:=s6.to P E1.glob;obtain⟨g,b,n1,n2,n3,_⟩:=(D.uv.ns);obtain⟨cv,h1,h2⟩:=n3 k hk;exact eg S D hg (ax g b n1 n2 (.inl h1)) (P.now D.inv (h2 μ))
section
variable {e e':CD}
theorem cC(h:e=e')(t:TE vis nk pe e)(v:aO c n vis nk pe e')(he:∀env whole,isTrue e' env whole=(do let v<-whole;standAt e'.pos;holding [v] (truthy v))):ul c n vis nk pe e:=by subst h;exact aaN t v he
theorem jY(h:e=e')(t:TE vis nk pe e)(v:aO c n vis nk pe e'/\ib c n vis nk pe e'):ul c n vis nk pe e:=by subst h;exact⟨t,v.1,v.2⟩
theorem afM{es:ub}(h:tY c n vis nk es fs)(hl:2<=fs.length):aO c n vis nk (.band es) (.BoolOp .And fs p)/\ib c n vis nk (.band es) (.BoolOp .And fs p):=by
 refine⟨?_,λA env ρ m B μ H s Q E S D P=>?_⟩
 ·cases h with
  |nil=>exact CI hl (by decide)
  |cons h1 h2=>exact aoN h1 h2
 ·refine MQ (aqc h A env ρ m B μ H s Q E S D ?_);rw[E1.band] at P;exact P
theorem af7{es:ub}(h:tY c n vis nk es fs)(hl:2<=fs.length):aO c n vis nk (.bor es) (.BoolOp .Or fs p)/\ib c n vis nk (.bor es) (.BoolOp .Or fs p):=by
 refine⟨?_,λA env ρ m B μ H s Q E S D P=>?_⟩
 ·cases h with
  |nil=>exact CI hl (by decide)
  |cons h1 h2=>exact aoQ h1 h2
 ·refine MQ (aqd h A env ρ m B μ H s Q E S D ?_);rw[E1.bor] at P;exact P
theorem aiK{es:ub}{tp:Pos}(hg:glob? nk (dH .isInt)=true)(wR:glob? nk "int"=true)(h:tY c n vis nk es [l]):aO c n vis nk (.bi .isInt es) (.Call (.Name (dH .isInt) np) [l,.Name "int" tp] [] p):=by cases h with |cons h1 h2=>cases h2;exact ao4 hg wR h1
theorem vY.of{e:PE}{es:ub}{o:Option CD}{f:CD}(h1:es=.nil)(h2:o=Option.some f)(h:aO c n vis nk e f):vY c n vis nk (.cons e es) o:=by subst h1 h2;exact .some h
theorem tY.of{e:PE}{es:ub}{gs:List CD}{f:CD}(h1:fs=f::gs)(h:ul c n vis nk e f)(hs:tY c n vis nk es gs):tY c n vis nk (.cons e es) fs:=by subst h1;exact .cons h hs
theorem ajZ(h:fs=[]):tY c n vis nk .nil fs:=by subst h;exact .nil
theorem aj2{o:Option CD}(h:o=none):vY c n vis nk .nil o:=by subst h;exact .none
theorem ai6(LR:hV c n)(U:tm){i j1 j2:Nat}{t8:List Nat}(hc:t8=[j1,j2])(h1:(i,x)∈vis)(h2:fw x=true)(h3:(j1,("width":Str))∈vis)(h4:(j2,("height":Str))∈vis):aO (c.tz U) n vis nk (.tB i t8) (.Call (.Name x np) [] [] pos):=by subst hc;exact LR U vis nk i j1 j2 x np pos h1 h2 h3 h4
theorem gJ{t:List Nat}(h:nd t xs vis nk sc=true):t.length=xs.length/\kj sc.names xs=true/\lW sc=true/\gY nk sc=true/\bQ (bP t xs vis sc.names)=true:=(bY (Do (aa h).1) ((aa (aa h).2).1) ((aa (aa (aa h).2).2).1) (aa (aa (aa (aa h).2).2).2))
end
mutual
theorem cj(CO:∀U,eS (c.tz U) n)(NO:∀U,ia (c.tz U) n)(LR:hV c n)(ZR:iC c n):∀{vis:aN}{nk:aP}(pe:PE){e:CD},TE vis nk pe e->∀U,ul (c.tz U) n vis nk pe e
 |_,_,.var i,_,h,U=>cC h.1 h (apl h.2.1 h.2.2) λZ Z=>rfl
 |_,_,.glob k,_,h,U=>cC h.1 h (ah4 h.2.1 h.2.2) λZ Z=>rfl
 |_,_,.s7 i,_,h,U=>cC h h aoX λZ Z=>rfl
 |_,_,.tH i,_,h,U=>cC h h adX λZ Z=>rfl
 |_,_,.s9 i,_,h,U=>cC h.1 h (aoW h.2) λZ Z=>rfl
 |_,_,.ug i,_,h,U=>cC h h aoV λZ Z=>rfl
 |_,_,.bin o a b,_,h,U=>cC h.1 h (aoP (cj CO NO LR ZR a h.2.1 U).v (cj CO NO LR ZR b h.2.2 U).v) λZ Z=>rfl
 |_,_,.neg a,_,h,U=>cC h.1 h (apb (cj CO NO LR ZR a h.2 U).v) λZ Z=>rfl
 |_,_,.not a,_,h,U=>jY h.1 h (apd (cj CO NO LR ZR a h.2 U))
 |_,_,.band es,_,h,U=>jY h.1 h (afM (tP CO NO LR ZR es h.2.1 U) h.2.2)
 |_,_,.bor es,_,h,U=>jY h.1 h (af7 (tP CO NO LR ZR es h.2.1 U) h.2.2)
 |_,_,.cmp a o b,_,h,U=>jY h.1 h (aoS (cj CO NO LR ZR a h.2.1 U).v (cj CO NO LR ZR b h.2.2 U))
 |_,_,.uE a o b o' d,_,h,U=>jY h.1 h (aoT (cj CO NO LR ZR a h.2.1 U).v (cj CO NO LR ZR b h.2.2.1 U) (cj CO NO LR ZR d h.2.2.2 U))
 |_,_,.u5 d a b,_,h,U=>jY h.1 h (ao3 (cj CO NO LR ZR d h.2.1 U) (cj CO NO LR ZR a h.2.2.1 U) (cj CO NO LR ZR b h.2.2.2 U))
 |_,_,.list es,_,h,U=>cC h.1 h (ao5 (tP CO NO LR ZR es h.2 U).sound) λZ Z=>rfl
 |_,_,.tup es,_,h,U=>cC h.1 h (apk h.2.1 h.2.2 (tP CO NO LR ZR es h.2.1 U).sound) λZ Z=>rfl
 |_,_,.uL,_,h,U=>cC h h aoZ λZ Z=>rfl
 |_,_,.idx a i,_,h,U=>cC h.1 h (ao2 (cj CO NO LR ZR a h.2.1 U).v (cj CO NO LR ZR i h.2.2 U).v) λZ Z=>rfl
 |_,_,.slice a lo hi st,_,h,U=>cC h.1 h (apg (cj CO NO LR ZR a h.2.1 U).v (wM CO NO LR ZR lo h.2.2.1 U) (wM CO NO LR ZR hi h.2.2.2.1 U) (wM CO NO LR ZR st h.2.2.2.2 U)) λZ Z=>rfl
 |_,_,.attr a k,_,h,U=>cC h.1 h (aoM (cj CO NO LR ZR a h.2.1 U).v h.2.2.2) λZ Z=>rfl
 |_,_,.comp elt t one it .nil conds,_,h,U=>cC h.1 h (aoU (cj CO NO LR ZR it h.2.2.2.2.2 U).v h.2.2.2.2.2 (cj CO NO LR ZR elt h.2.2.2.1) (tP CO NO LR ZR conds h.2.2.2.2.1) h.2.1 (gJ h.2.2.1).1 (gJ h.2.2.1).2.1 (rk (gJ h.2.2.1).2.2.1) (gJ h.2.2.1).2.2.2.1 (gJ h.2.2.1).2.2.2.2) λZ Z=>rfl
 |vis,nk,.comp elt t one it (.cons xG es) conds,e,h,U=>by obtain⟨rfl,z1,z2,z3,z4,z5⟩:=h.2.2.2.2.2;exact cC (h.1.trans (CH (λi=>PySem.Expr.ListComp (view e).a [⟨(gen (view e).gs).target,i,(gen (view e).gs).ifs,0⟩] (view e).sc (view e).p) z1)) h (ZR U vis nk elt t one it xG conds _ _ _ _ _ _ _ _ _ _ (cj CO NO LR ZR it z4) (cj CO NO LR ZR xG z5) z2 z3 h.2.1 (gJ h.2.2.1).1 (gJ h.2.2.1).2.1 (gJ h.2.2.1).2.2.1 (Ff.mpr (gJ h.2.2.1).2.2.2) (cj CO NO LR ZR elt h.2.2.2.1) (tP CO NO LR ZR conds h.2.2.2.2.1)) λZ Z=>rfl
 |_,_,.call k es,_,h,U=>cC h.1 h (aoR (CO U) h.2.1 h.2.2.1 (tP CO NO LR ZR es h.2.2.2 U)) λZ Z=>rfl
 |_,_,.new k es,_,h,U=>cC h.1 h (apc (NO U) h.2.2.1 h.2.1 (tP CO NO LR ZR es h.2.2.2 U)) λZ Z=>rfl
 |_,_,.bi f es,e,h,U=>by
  rcases h.2.2 with q |⟨q1,q2,q3,q4⟩
  ·exact cC h.1 h (aoO q.1 h.2.1 (tP CO NO LR ZR es q.2 U)) λZ Z=>rfl
  ·subst q1;exact cC (h.1.trans (CH (λl=>Jy (.Name (dH .isInt) (view (view e).a).p) l [] (view e).p) q2)) h (aiK h.2.1 q3 (tP CO NO LR ZR es q4 U)) λZ Z=>rfl
 |_,_,.tN m o es,_,h,U=>cC h.1 h (ao7 h.2.1 (cj CO NO LR ZR o h.2.2.1 U).v (tP CO NO LR ZR es h.2.2.2 U)) λZ Z=>rfl
 |_,_,.most o,_,h,U=>cC h.1 h (ao8 (CO U) h.2.1 (cj CO NO LR ZR o h.2.2 U).v) λZ Z=>rfl
 |_,_,.tB i t8,_,h,U=>cC h.1 h (ai6 LR U h.2.1 h.2.2.1 h.2.2.2.1 h.2.2.2.2.1 h.2.2.2.2.2) λZ Z=>rfl
theorem tP(CO:∀U,eS (c.tz U) n)(NO:∀U,ia (c.tz U) n)(LR:hV c n)(ZR:iC c n):∀{vis:aN}{nk:aP}(pe:ub){e:List CD},u7 vis nk pe e->∀U,tY (c.tz U) n vis nk pe e
 |_,_,.nil,_,h,U=>ajZ h
 |_,_,.cons e es,_,h,U=>.of h.1 (cj CO NO LR ZR e h.2.1 U) (tP CO NO LR ZR es h.2.2 U)
theorem wM(CO:∀U,eS (c.tz U) n)(NO:∀U,ia (c.tz U) n)(LR:hV c n)(ZR:iC c n):∀{vis:aN}{nk:aP}(pe:ub){e:Option CD},TO vis nk pe e->∀U,vY (c.tz U) n vis nk pe e
 |_,_,.nil,_,h,U=>aj2 h
 |_,_,.cons e es,_,h,U=>.of h.1 h.2.1 (cj CO NO LR ZR e h.2.2 U).v
end
theorem cG(CO:∀U,eS (c.tz U) n)(NO:∀U,ia (c.tz U) n)(LR:hV c n)(ZR:iC c n){e:CD}(h:TE vis nk pe e)(U:tm):ul (c.tz U) n vis nk pe e:=cj CO NO LR ZR pe h U
theorem apF(CO:∀U,eS (c.tz U) n)(NO:∀U,ia (c.tz U) n)(LR:hV c n)(ZR:iC c n){pe:ub}{e:List CD}(h:u7 vis nk pe e)(U:tm):tY (c.tz U) n vis nk pe e:=tP CO NO LR ZR pe h U
end
structure FE(c:tG)(U0:tm)(A:Around)(env:Env)(nk:aP)(n:Nat):Prop where
 kind:env.scope.kind=.function
 glob:env.globals=Df
 blt:env.builtins=Ec
 kinds:∀x,env.kindOf x=nk.lookup x
 cls:∀x,nk.lookup x=some .cell\/nk.lookup x=some .free->∃a,env.cells.lookup x=some a
 frames:A.frames=some c.fs
 top:∃yB,c.fs=env::yB/\env.frame=some env.locals/\∀e∈yB,e.scope.kind≠.module/\∃L o,e.frame=some L/\U0 L o/\¬Ex o
 deep:A.depth+n<480
 units:A.units+60*n+100<=9000
 uU:(c.Γ.hd=false/\A.handled=none)\/(c.Γ.hd=true/\(∀k vs H,c.Γ.C k vs H=R.bad)/\∃x o vs,A.handled=some (.ref x)/\U0 x o/\o.data=.fields vs/\vs[2]?=some .none)
 off:Off true U0 env
theorem FE.es{c:tG}{n:Nat}(T:FE c U0 A env nk n)(F:FS true c.prog c.w U0 env vis ρ B μ H U h):ES (c.tz U) A env nk n 4 where
 kind:=T.kind
 glob:=T.glob
 blt:=T.blt
 Cm:=λx hx=>(T.kinds x).trans hx
 cls:=λx hx=>by obtain⟨a,ha⟩:=T.cls x hx;refine(ae a ha ?_);rw[T.kinds x];exact hx
 xH:=by
  obtain⟨yB,h1,h2,h3⟩:=(T.top);refine⟨T.frames,λe he=>?_⟩;rw[show(c.tz U).fs=c.fs from rfl,h1] at he;rcases CR.mp he with rfl |he
  ·obtain⟨o,es,ep,g1,g2,_⟩:=(F.own.dict);exact(jw (by rw[T.kind];exact λq=>(nomatch q)) _ o h2 g1 (λx=>x.elim (λ⟨vs,q⟩=>by rw[g2] at q;cases q) λzl=>o_ee zl λxs n q=>by rw[g2] at q;cases q))
  ·refine o_aeeaa (h3 e he) λh4 L o h5 h6 h7=>?_;exact(jw h4 L o h5 (F.keep _ _ h6) h7)
 deep:=T.deep
 units:=by have:=T.units;exact Nat.le_trans (Nat.le_refl _) this
 uU:=by
  rcases T.uU with h |⟨h1,h2,x,o,vs,h3,h4,h5⟩
  ·exact .inl h
  ·exact .inr (nj h1 h2 x o vs h3 (bE (F.keep _ _ h4) h5))
def tu(c:tG)(U0:tm)(env:Env)(vis:aN)(s:CC)(B:CF)(μ:List Cz)(r:R Fl)(Q:Flow->CC->Prop)(E:Cy->CC->Prop):Prop:=match r with
 | .ok (.next ρ') H'=>∀B' th U' h' t',B.StaysIn B'->Pre μ th->FS true c.prog c.w U0 env vis ρ' B' th H' U' h'->Q .next {s with heap:=h',toks:=t'}
 | .ok (.ret v) H'=>∀B' th U' h' t' cv ρ',B.StaysIn B'->Pre μ th->FS true c.prog c.w U0 env vis ρ' B' th H' U' h'->VR B' th v cv->Q (.ret cv) {s with heap:=h',toks:=t'}
 | .exc k H'=>∀B' th U' h' t' e ρ',B.StaysIn B'->Pre μ th->FS true c.prog c.w U0 env vis ρ' B' th H' U' h'->hJ U' c.fs k B' th h' e->E (.ref e) {s with heap:=h',toks:=t'}
 | .bad=>False
theorem tu.to{c:tG}{r r':R Fl}{Q:Flow->CC->Prop}(P:tu c U0 env vis s B μ r Q E)(h:r=r'):tu c U0 env vis s B μ r' Q E:=h▸P
theorem tu.shift{c:tG}{r:R Fl}{Q:Flow->CC->Prop}(P:tu c U0 env vis s B μ r Q E)(hB:B.StaysIn B')(tJ:Pre μ th)(h':CF)(t':Nat):
  tu c U0 env vis {s with heap:=h',toks:=t'} B' th r Q E:=by
 cases r with
 |ok fl H'=>
  cases fl with
  |next ρ'=>exact λve uu vZ tU u6 x y F=>P ve uu vZ tU u6 (λZ Z e=>x _ _ (hB _ _ e)) (tJ.trans y) F
  |ret v=>exact λve uu vZ tU u6 cv ρ' x y F w=>P ve uu vZ tU u6 cv ρ' (λZ Z e=>x _ _ (hB _ _ e)) (tJ.trans y) F w
 |exc k H'=>exact λve uu vZ tU u6 e ρ' x y F w=>P ve uu vZ tU u6 e ρ' (λZ Z e=>x _ _ (hB _ _ e)) (tJ.trans y) F w
 |bad=>exact P
section
variable {c:tG}{n:Nat}
theorem cL(F:FS true c.prog c.w U0 env vis ρ B μ H U h)(G:uk c.prog c.w B):uX (c.tz U) env vis ρ B μ H h:=⟨F.inv,F.nm,G⟩
theorem iI{δ:Type}{Rel₁:CF->List Cz->γ->δ->Prop}{r:R γ}{f:γ->AH->R Fl}{Q:Flow->CC->Prop}{Q₁:δ->CC->Prop}
  (F:FS true c.prog c.w U0 env vis ρ B μ H U s.heap) (G:uk c.prog c.w B) (P:tu c U0 env vis s B μ (r.bind f) Q E)
  (k:∀a H' B' th (s':CC) b,r=.ok a H'->FS true c.prog c.w U0 env vis ρ B' th H' U s'.heap->uk c.prog c.w B'->Rel₁ B' th a b->B.StaysIn B'->Pre μ th->tu c U0 env vis s' B' th (f a H') Q E->Q₁ b s'):
  s6 (c.tz U) s B μ Rel₁ r Q₁ E:=by
 cases r with
 |ok a H'=>exact λB' th h' t' b x y I v=>k a H' B' th {s with heap:=h',toks:=t'} b rfl (F.step x y I) (G.mono x) v x y (tu.shift P x y h' t')
 |exc j H'=>exact λB' th h' t' e x y I v=>P B' th U h' t' e ρ x y (F.step x y I) v
 |bad=>exact P
def dD(c:tG)(n:Nat)(vis:aN)(nk:aP)(ps:PS)(st:Stmt):Prop:=
 ∀(U0:tm)(A:Around)(env:Env)(ρ:aB)(B:CF)(μ:List Cz)(H:AH)(U:tm)(s:CC)(Q:Flow->CC->Prop)(E:Cy->CC->Prop),
  FE c U0 A env nk n->FS true c.prog c.w U0 env vis ρ B μ H U s.heap->uk c.prog c.w B->tu c U0 env vis s B μ (exec c.Γ ps ρ H) Q E->CB (CA c.prog c.w) A (EP st env) Q E s
def d9(c:tG)(n:Nat)(vis:aN)(nk:aP)(ps:tQ)(st:List Stmt):Prop:=
 ∀(U0:tm)(A:Around)(env:Env)(ρ:aB)(B:CF)(μ:List Cz)(H:AH)(U:tm)(s:CC)(Q:Flow->CC->Prop)(E:Cy->CC->Prop),
  FE c U0 A env nk n->FS true c.prog c.w U0 env vis ρ B μ H U s.heap->uk c.prog c.w B->tu c U0 env vis s B μ (CE c.Γ ps ρ H) Q E->CB (CA c.prog c.w) A (Dw st env) Q E s
end
variable {es:List CD}
theorem jD{e:CD}(h:TE vis nk pe e)(hn:bM e=true)(l:Nat)(env:Env)(tg:Option CD):swapsWith e tg l env=pure false:=h.nice.swap l env tg (aj3 hn)
section
variable {c:tG}{n:Nat}
def gz(c:tG)(n:Nat)(vis:aN)(nk:aP)(pe:PE)(e:CD):Prop:=∀U,ul (c.tz U) n vis nk pe e
theorem apM{e:PE}{v:CD}(hv:gz c n vis nk e v)(ht:TE vis nk e v)(hn:bM v=true):dD c n vis nk (.expr e) (.Expr v pos):=λU0 A env ρ B μ H U s Q E T F G P=>by
 replace P:=tu.to P E5.expr;refine JN ((hv U).v A env ρ 4 B μ H s _ E (T.es F) (cL F G) (iI F G P λv' H' B' th s' cv e F' G' w hB tJ P'=>?_)) ?_ (jD ht hn _ _ _)
 ·split at P'
  ·exact P' B' th U s'.heap s'.toks (λZ Z e=>e) (Pre.refl _) F'
  ·exact P'.elim
 ·unfold interactive;rw[T.kind];rfl
theorem apS{e:PE}{v:CD}(hv:gz c n vis nk e v):dD c n vis nk (.ret e) (.Return (some v) pos):=λU0 A env ρ B μ H U s Q E T F G P=>by replace P:=tu.to P E5.ret;refine wpAny_Return_some ((hv U).v A env ρ 4 B μ H s _ E (T.es F) (cL F G) (iI F G P λv' H' B' th s' cv e F' G' w hB tJ P'=>?_));exact P' B' th U s'.heap s'.toks cv ρ (λZ Z e=>e) (Pre.refl _) F' w
theorem aeB{r:R AV}{g:Bool->AH->R Fl}{Q:Flow->CC->Prop}{Q₁:Bool->CC->Prop}
  (F:FS true c.prog c.w U0 env vis ρ B μ H U s.heap) (G:uk c.prog c.w B) (P:tu c U0 env vis s B μ (r.bind λv H=>bN .bad v λb=>g b H) Q E)
  (k:∀b H' B' th (s':CC),r=.ok (.bool b) H'->FS true c.prog c.w U0 env vis ρ B' th H' U s'.heap->uk c.prog c.w B'->B.StaysIn B'->Pre μ th->tu c U0 env vis s' B' th (g b H') Q E->Q₁ b s'):
  s6 (c.tz U) s B μ jO (r.bind λv H=>match v with | .bool b=>.ok (.bool b) H |_=>.bad) Q₁ E:=by
 revert P
 cases r with
 |ok v H'=>
  cases v with
  |bool b=>
   intro P B' th h' t' b' x y I v;obtain rfl:b'=b:=by cases v;rfl
   have P':tu c U0 env vis s B μ (g b' H') Q E:=P;exact k b' H' B' th {s with heap:=h',toks:=t'} rfl (F.step x y I) (G.mono x) x y (tu.shift P' x y h' t')
  |_=>exact λP=>P.elim
 |exc j H'=>exact λP B' th h' t' e x y I v=>P B' th U h' t' e ρ x y (F.step x y I) v
 |bad=>exact λP=>P.elim
theorem apO{d:PE}{a b:tQ}{t:CD}{x y:List Stmt}(hd:gz c n vis nk d t)(ha:d9 c n vis nk a x)(hb:d9 c n vis nk b y):dD c n vis nk (.ifs d a b) (.If t x y pos):=λU0 A env ρ B μ H U s Q E T F G P=>by
 replace P:=tu.to P E5.ifs;refine wpAny_If ((hd U).b A env ρ 4 B μ H s _ E (T.es F) (cL F G) (aeB F G P λz H' B' th s' e F' G' hB tJ P'=>?_))
 cases z with
 |true=>exact ha U0 A env ρ B' th H' U s' Q E T F' G' P'
 |false=>exact hb U0 A env ρ B' th H' U s' Q E T F' G' P'
theorem apQ:d9 c n vis nk .nil []:=λU0 A env ρ B μ H U s Q E T F G P=>by replace P:=tu.to P E6.nil;exact Fe (P B μ U s.heap s.toks (λZ Z e=>e) (Pre.refl _) F)
theorem aen{r:R Fl}{f:aB->AH->R Fl}{Q:Flow->CC->Prop}{Q₁:Flow->CC->Prop}(G:uk c.prog c.w B)
  (P:tu c U0 env vis s B μ (r.bind λfl H=>match fl with | .next ρ=>f ρ H | .ret v=>.ok (.ret v) H) Q E)
  (k:∀ρ' H' B' th U' (s':CC),r=.ok (.next ρ') H'->FS true c.prog c.w U0 env vis ρ' B' th H' U' s'.heap->uk c.prog c.w B'->B.StaysIn B'->Pre μ th->tu c U0 env vis s' B' th (f ρ' H') Q E->Q₁ .next s')
  (k2:∀cv (s':CC),Q (.ret cv) s'->Q₁ (.ret cv) s'):tu c U0 env vis s B μ r Q₁ E:=by
 cases r with
 |ok fl H'=>
  cases fl with
  |next ρ'=>exact λB' th U' h' t' x y F=>k ρ' H' B' th U' {s with heap:=h',toks:=t'} rfl F (G.mono x) x y (tu.shift P x y h' t')
  |ret v=>exact λB' th U' h' t' cv ρ' x y F w=>k2 cv _ (P B' th U' h' t' cv ρ' x y F w)
 |exc j H'=>exact P
 |bad=>exact P
theorem apL{td:PS}{t:Stmt}{ts:List Stmt}(h:dD c n vis nk td t)(hs:d9 c n vis nk ss ts):d9 c n vis nk (.cons td ss) (t::ts):=λU0 A env ρ B μ H U s Q E T F G P=>by replace P:=tu.to P E6.cons;refine Fs (h U0 A env ρ B μ H U s _ E T F G (aen G P (λρ' H' B' th U' s' e F' G' hB tJ P'=>?_) λcv s' q=>q));exact hs U0 A env ρ' B' th H' U' s' Q E T F' G' P'
end
theorem jd{is:List Nat}(h:fK vis nk is xs=true){i:Nat}(hm:(i,x)∈is.zip xs):(i,x)∈vis/\(nk.lookup x=some .local\/nk.lookup x=some .cell):=by have:=CV.mp h _ hm;simp only[Bool.and_eq_true,Ez,C9] at this;exact⟨mD this.1.1,this.2⟩
section
variable {c:tG}{n:Nat}
theorem FE.slot(T:FE c U0 A env nk n)(h:nk.lookup x=some .local\/nk.lookup x=some .cell):iZ true env x:=by
 rcases h with h |h
 ·exact .inl ((T.kinds x).trans h)
 ·obtain⟨a,ha⟩:=T.cls x (.inl h);exact .inr (iO rfl ((T.kinds x).trans h) a ha)
section
variable {v:CD}
theorem aaT{x p}(h:v=.Name x p):bM v=true:=by subst h;rfl
theorem mX{k q p}(h:v=.Constant k q p):bM v=true:=by subst h;rfl
theorem age{l o r p}(h:v=.BinOp l o r p):bM v=true:=by subst h;rfl
theorem cUn{o l p}(h:v=.UnaryOp o l p):bM v=true:=by subst h;rfl
theorem aaR{o l p}(h:v=.BoolOp o l p):bM v=true:=by subst h;rfl
theorem aaS{l o r p}(h:v=.Compare l o r p):bM v=true:=by subst h;rfl
theorem cIf{t l r p}(h:v=.IfExp t l r p):bM v=true:=by subst h;rfl
theorem agh{l p}(h:v=.List l p):bM v=true:=by subst h;rfl
theorem agj{l q p}(h:v=.Tuple l q p):bM v=true:=by subst h;rfl
theorem agf{k l p}(h:v=.Dict k l p):bM v=true:=by subst h;rfl
theorem aaU{l r p}(h:v=.Subscript l r p):bM v=true:=by subst h;rfl
theorem agd{l x p}(h:v=.Attribute l x p):bM v=true:=by subst h;rfl
theorem j0{l x k p}(h:v=.Call l x k p):bM v=true:=by subst h;rfl
end
theorem TE.nc:∀{pe:PE}{v:CD},TE vis nk pe v->bM v=true\/∃elt t one it zip conds,pe=.comp elt t one it zip conds
 | .var i,_,h=>.inl (aaT h.1)
 | .glob k,_,h=>.inl (aaT h.1)
 | .s7 k,_,h=>.inl (mX h)
 | .tH k,_,h=>.inl (mX h)
 | .s9 k,_,h=>.inl (mX h.1)
 | .ug k,_,h=>.inl (mX h)
 | .bin o a b,_,h=>.inl (age h.1)
 | .neg a,_,h=>.inl (cUn h.1)
 | .not a,_,h=>.inl (cUn h.1)
 | .band es,_,h=>.inl (aaR h.1)
 | .bor es,_,h=>.inl (aaR h.1)
 | .cmp a o b,_,h=>.inl (aaS h.1)
 | .uE a o b o' d,_,h=>.inl (aaS h.1)
 | .u5 d a b,_,h=>.inl (cIf h.1)
 | .list es,_,h=>.inl (agh h.1)
 | .tup es,_,h=>.inl (agj h.1)
 | .uL,_,h=>.inl (agf h)
 | .idx a i,_,h=>.inl (aaU h.1)
 | .slice a lo hi st,_,h=>.inl (aaU h.1)
 | .attr a n,_,h=>.inl (agd h.1)
 | .comp elt t one it zip conds,_,h=>.inr (dT elt t one it zip conds rfl)
 | .call k es,_,h=>.inl (j0 h.1)
 | .new k es,_,h=>.inl (j0 h.1)
 | .bi f es,_,h=>.inl (j0 h.1)
 | .tN m o es,_,h=>.inl (j0 h.1)
 | .most o,_,h=>.inl (j0 h.1)
 | .tB i t8,_,h=>.inl (j0 h.1)
theorem TE.arO{v:CD}(h:TE vis nk pe v)(hn:bM v=false)(hz:pb v=true):∃elt t one it conds uR tg vq tS sc p xs,pe=.comp elt t one it .nil conds/\v=.ListComp uR [⟨tg,vq,tS,0⟩] sc p/\
  cZ one tg=some xs/\nd t xs vis nk sc=true/\TE vis nk it vq/\TE (bP t xs vis sc.names) sc.names elt uR/\u7 (bP t xs vis sc.names) sc.names conds tS:=by
 rcases h.nc with q |⟨elt,t,one,it,zip,conds,rfl⟩
 ·rw[q] at hn;cases hn
 ·cases zip with
  |nil=>exact(dT elt t one it conds _ (dT _ _ _ _ _ _ (dv rfl h.1 h.2.1 h.2.2.1 h.2.2.2.2.2 h.2.2.2.1 h.2.2.2.2.1)))
  |cons xG es=>
   have z:=h.2.2.2.2.2.2.1;have ht:(view v).tag=15:=(CH (λv=>(view v).tag) h.1).trans rfl
   have A2:(!((view v).tag==15&&dO "zip" (view (gen (view v).gs).iter).a))=true:=hz
   rw[ht,z] at A2;cases A2
theorem apI{i:Nat}{e:PE}{v:CD}(CO:∀U,eS (c.tz U) n)(NO:∀U,ia (c.tz U) n)(LR:hV c n)(ZR:iC c n)(uq:bQ vis=true)
  (hz:fK vis nk [i] [x]=true) (hzf:pb v=true) (ht:TE vis nk e v):dD c n vis nk (.assign (.var i) e) (.Assign [.Name x p] v pos):=λU0 A env ρ B μ H U s Q E T F G P=>by
 replace P:=tu.to P E5.assign;obtain⟨h1,h2⟩:=jd hz (show(i,x)∈[i].zip [x] from GV _);have ar3:=T.slot h2;have plain:swapsWith v (some (.Name x p)) pos.line env=pure false->CB (CA c.prog c.w) A (EP (.Assign [.Name x p] v pos) env) Q E s:=by intro hs;rw[My _ _ _ _ _ hs];refine wpAny_bind (DN (wpAny_bind ((cG CO NO LR ZR ht U).v A env ρ 4 B μ H s _ E (T.es F) (cL F G) (iI F G P λv' H' B' th s' cv e F' G' w hB tJ P'=>?_))));refine wpAny_bind (DN (wpAny_bind (Iw (jL F' T.off uq T.kind h1 ar3 w.xk λh' U' t' F2 Z=>wpAny_pure ?_))));exact P' B' th U' h' t' (λZ Z e=>e) (Pre.refl _) F2
 cases hn:bM v with
 |true=>exact plain (jD ht hn _ _ _)
 |false=>
  (refine o_eeeeee (ht.arO hn hzf) λelt t one it conds uR=>r_eeeeee λtg vq tS sc asn xs=>r_aaaaaa λzq12 zq13 hx hfc hi he hc=>?_;subst zq12;clear hzf hn ht;subst zq13);obtain⟨hl,uG,hk,hf1,hf2⟩:=gJ hfc
  ·skip
   have zT:∃b,swapsWith (.ListComp uR [⟨tg,vq,tS,0⟩] sc asn) (some (.Name x p)) pos.line env=pure b:=⟨_,rfl⟩;obtain⟨b,zT⟩:=zT
   cases b with
   |false=>exact plain zT
   |true=>
    rw[exec_Assign_Name_used _ _ _ _ zT];refine wpAny_bind (DN (wpAny_bind ?_));show CB _ A (do let _<-comprehension (.ListComp uR [⟨tg,vq,tS,0⟩] sc asn) sc env _ (newList []) false (eval vq env) (some (assign (.Name x p) env))) _ _ s
    refine wpAny_bind (abp (c:=c.tz U) (Q₁:=λZ sx=>∃h t,sx={s with heap:=h,toks:=t}) (cG CO NO LR ZR hi U).v hi (cG CO NO LR ZR he) (apF CO NO LR ZR hc) (T.es F) hx hl uG (rk hk) hf1 hf2 (cL F G)
     ?_ ?_)
    ·revert P;show tu c U0 env vis s B μ ((ev c.Γ (.comp elt t one it .nil conds) 4 ρ H).bind _) Q E->s6 (c.tz U) s B μ VR (ev c.Γ (.comp elt t one it .nil conds) 4 ρ H) _ E
     cases ev c.Γ (.comp elt t one it .nil conds) 4 ρ H with
     |ok a H'=>exact λZ B' th h' t' b x y I v=>(cK _ _ rfl)
     |exc j H'=>exact λP B' th h' t' e x y I v=>P B' th U h' t' e ρ x y (F.step x y I) v
     |bad=>exact λP=>P
    intro D C s2 B2 vF H2 v' zQ uW ud I2 w zu fC wx;replace zQ:ev c.Γ (.comp elt t one it .nil conds) 4 ρ H=.ok v' H2:=zQ;rw[zQ] at P;replace P:∀B' th U' h' t',B.StaysIn B'->Pre μ th->FS true c.prog c.w U0 env vis (ρ.set i v') B' th H2 U' h'->Q .next {s with heap:=h',toks:=t'}:=P;obtain⟨h0,t0,Bo⟩:=wx s2.heap (Nc _ _);obtain⟨hh2,g2,d2,tk2,os2⟩:=s2;simp only[CC.mk.injEq] at Bo;(revert Bo;refine r_aaaa λZ zq1 zq2 Z zq4=>?_;subst zq1;subst zq2;clear wx;subst zq4);have F2:FS true c.prog c.w U0 env vis ρ B2 vF H2 U hh2:=F.step uW ud I2;show CB _ A (assign (.Name x p) env (.ref D)) _ _ _;refine JO (jL F2 T.off uq T.kind h1 ar3 w.xk λh' U' t' F3 hw=>?_);obtain⟨a,pa,o',hUa,hs,hU'⟩:=hw;have hCa:C≠a:=λe=>fC.2.2 pa (e▸hUa);obtain⟨m,oC,es,ep,eC,r⟩:=zu;refine(ae m (gc oC es ep (hs C oC hCa eC) r) (λBy atz=>wpAny_pure (wpAny_pure ?_)));have atJ:∀p,¬U' C p:=λp hp=>by rw[hU'] at hp;exact fC.2.2 p (hp.resolve_right λq=>hCa q.1).2
    exact P B2 vF U' By t' uW ud ⟨F3.inv.but atz.extBut fC.1 fC.2.1 atJ,F3.nm,F3.own,F3.keep⟩
end
section
variable {c:tG}{n:Nat}{Q:Unit->CC->Prop}
theorem apv{l:Cz}{nn:Nat}{k:Int}{v:Cy}(ho:s.heap.get? l=some {cls:=.type "list",data:=.seq (Da tf) nn})(h0:0<=k)(asK:k<2^63)(hn:k<tf.length)
  (hQ:∀h' n',h'.get? l=some {cls:=.type "list",data:=.seq (Da (tf.set k.toNat v)) n'}->Dz l s.heap h'->Q () {s with heap:=h'}):
  CB (CA c.prog c.w) A (setItem (.ref l) (.int k t) v) Q E s:=by
 have hl:=cH ho;have hj:k.toNat<tf.toArray.size:=by rw[De];exact(GT h0).mpr hn
 have e:=Em (GJ (·.setIfInBounds k.toNat v)) ho rfl;have fin:=hQ _ _ (by
  refine e.trans ?_
  show some ({cls:=.type "list",data:=.seq (tf.toArray.setIfInBounds k.toNat v) _}:Obj)=_
  rw[show tf.toArray.setIfInBounds k.toNat v=(tf.set k.toNat v).toArray by simp]) (Gr ..).extBut
 have AS:=fitsIndex_of h0 asK;clear asK hn hQ e;unfold setItem;refine Dv (wpAny_bind (wpAny_sequenceKey hl.typeIs (by decide) ?_));refine wpAny_bind (ML hl.typeIs MI
  (Ix MI hl.typeIs entry_list_setitem ?_ (args_list_setitem _ _ _)))
 show CB _ _ (M6 (.int k t)>>=_) _ _ s;refine wpAny_bind (wpAny_listSubscript_int AS ?_);clear AS;obtain⟨j,rfl⟩:=GP h0;rw[DQ] at hj;simp only[DQ] at fin;show CB _ _ ((seqItemAt l j>>=λr=>pure (r.map (j,·)))>>=_) _ _ s;refine wpAny_bind (wpAny_bind (wpAny_seqItemAt ho rfl (wpAny_pure ?_)));rw[JY hj];show CB _ _ (setSeqItemAt l j v>>=_) _ _ s;refine wpAny_bind (wpAny_setSeqItemAt ho rfl ?_)
 first
  |exact wpAny_bind (wpAny_pure (wpAny_pure (ae (.none) rfl (wpAny_pure fin))))
  |exact wpAny_pure ⟨.none,rfl,wpAny_pure fin⟩
theorem tD.set(hv:VR B μ v cv){i:Nat}(hs:tD B μ vs cs):tD B μ (vs.set i v) (cs.set i cv):=by
 induction vs generalizing cs i with
 |nil=>rw[hs.n];exact .nil
 |cons a vs ih=>
  obtain⟨_,_,e,h,hs⟩:=hs.c;rw[e]
  cases i with
  |zero=>exact .cons hv hs
  |succ i=>exact .cons h (ih hs)
theorem aph(I:Inv c.prog c.w B U μ H s.heap)(G:uk c.prog c.w B){x:AV}(vx:VR B μ x cx)(vy:VR B μ y cy)(vv:VR B μ v cv)(h:gZ H x y v=some H')
  (hq:∀h' t',Inv c.prog c.w B U μ H' h'->Q () {s with heap:=h',toks:=t'}):CB (CA c.prog c.w) A (setItem cx cy cv) Q E s:=by
 unfold gZ at h;replace h:=uf.oI h;rcases h with⟨i,rfl,h⟩ |h
 ·replace h:=uf.pL h;obtain⟨p,xs,rfl,hp,h⟩:=h;replace h:=uf.pQ h;obtain⟨hi,h⟩:=h;cases h;(obtain⟨a,zq1,ha⟩:=(vx.r);clear vx;subst zq1);obtain⟨t,rfl⟩:=vy.i;obtain⟨tf,nn,h1,h2,h3⟩:=I.list ha hp;have hl:=h2.length;rw[dN] at h3;exact apv h1 hi.1 (by omega) (hl▸hi.2) λh' n' e hs=>hq h' s.toks (I.upd ha hs e (ax _ n' rfl (tD.set vv h2) (by rw[Jh,dN];exact h3)) (jC rfl))
 ·replace h:=uf.pY h;obtain⟨k,rfl,h⟩:=h;replace h:=uf.pD h;obtain⟨p,es,rfl,hp,h⟩:=h
  split at h
  ·cases h
  ·rename_i hn
   cases h;(obtain⟨a,zq1,ha⟩:=(vx.r);clear vx;subst zq1);(obtain⟨t,zq1,hs⟩:=(vy.y);clear vy;subst zq1);obtain⟨kvs,h1,h2,h3,h4⟩:=I.dict ha hp;simp only[Ez,C3,Fq,J5] at hn;have hlen:kvs.length=es.length:=by have:=CH DI h2;simpa using this
   have atu:kvs.any (λkv=>kv.1=k)=false:=by have e1:=my (k:=k) h2;rw[hn.1] at e1;rw[HU];intro kv hm hk;unfold valueAt at e1;have:(kvs.find? λe=>decide (e.1=k)).isSome=true:=List.find?_isSome.mpr (ae kv hm hk);obtain⟨z,hz⟩:=FL.mp this;simp[hz] at e1
   refine wpAny_setItem_pairs (lV _ _) h1 (λh' hd hs=>hq h' _ ?_) (by rw[fF];omega);obtain⟨o',eo,ho⟩:=IL.mp hd;have yV:stored kvs k cv=kvs++[(k,cv)]:=by unfold stored;rw[atu];rfl
   rw[yV] at ho;refine I.upd ha hs.extBut eo (cY (kvs++[(k,cv)]) ho (by simp[h2]) (by rw[Dr,Dr];exact h3.append (.cons vv .nil)) (by rw[List.length_append];simp;omega)) ?_;rintro⟨vs,q⟩;obtain⟨Ag,ep,_,q2,_⟩:=ho;rw[q2] at q;cases q
theorem apJ{a i e:PE}{r v:CD}(ha:gz c n vis nk a l)(hi:gz c n vis nk i r)(he:gz c n vis nk e v)(ht:TE vis nk e v)(hn:bM v=true):
  dD c n vis nk (.assign (.sub a i) e) (.Assign [.Subscript l r p] v pos):=λU0 A env ρ B μ H U s Q E T F G P=>by
 replace P:=tu.to P E5.assign;refine wpAny_Assign_Subscript ((he U).v A env ρ 4 B μ H s _ E (T.es F) (cL F G) (iI F G P λv' H' B' th s' cv e F' G' w hB tJ P'=>?_)) (jD ht hn _ _ _);refine(ha U).v A env ρ 4 B' th H' s' _ E (T.es F') (cL F' G') (iI F' G' P' λx H2 B2 vF s2 cx e2 F2 G2 w2 uW ud P2=>?_);refine(hi U).v A env ρ 4 B2 vF H2 s2 _ E (T.es F2) (cL F2 G2) (iI F2 G2 P2 λy H3 B3 y4 s3 cy e3 F3 G3 w3 vS uS P3=>?_)
 cases q:gZ H3 x y v' with
 |none=>rw[q] at P3;exact P3.elim
 |some H4=>rw[q] at P3;refine aph F3.inv G3 (w2.mono vS uS) w3 ((w.mono uW ud).mono vS uS) q λh' t' I=>?_;exact P3 B3 y4 U h' t' (λZ Z e=>e) (Pre.refl _) ⟨I,F3.nm,F3.own,F3.keep⟩
theorem sq:∀{is:List Nat}{vs:List AV}{ρ ρ':aB},dy is vs ρ=some ρ'->is.length=vs.length/\ρ'=(is.zip vs).foldl (λr p=>r.set p.1 p.2) ρ
 |[],[],ρ,ρ',h=>by cases h;exact⟨rfl,rfl⟩
 |[],_::_,_,_,h=>by cases h
 |_::_,[],_,_,h=>by cases h
 |i::is,v::vs,ρ,ρ',h=>by obtain⟨h1,h2⟩:=sq (show dy is vs (ρ.set i v)=some ρ' from h);exact⟨CH (·+1) h1,h2⟩
theorem ad6:∀{is:List Nat}{vs:List AV}{ρ:aB},is.length=vs.length->dy is vs ρ=some ((is.zip vs).foldl (λr p=>r.set p.1 p.2) ρ)
 |[],[],_,_=>rfl
 |[],_::_,_,h=>by cases h
 |_::_,[],_,h=>by cases h
 |i::is,v::vs,ρ,h=>ad6 (ρ:=ρ.set i v) (by simpa using h)
theorem ahM:∀{ps:List (Nat×AV)}{ρ:aB}{i:Nat}{v:AV},i∉ps.map (·.1)->ps.foldl (λr p=>r.set p.1 p.2) (ρ.set i v)=(ps.foldl (λr p=>r.set p.1 p.2) ρ).set i v:=by
 intro zi
 induction zi with
 |nil=>
 exact @λZ Z Z Z=>rfl
 |cons zp ps ih=>
 obtain⟨j,w⟩:=zp;exact @λρ i v h=>by simp only[DS,CR,Fq] at h;rw[EK,EK,Lf _ _ h.1];exact ih h.2
theorem ahN:∀{ps:List (Nat×AV)}{ρ:aB},(ps.map (·.1)).Nodup->ps.reverse.foldl (λr p=>r.set p.1 p.2) ρ=ps.foldl (λr p=>r.set p.1 p.2) ρ:=by
 intro zi
 induction zi with
 |nil=>
 exact @λZ Z=>rfl
 |cons zp ps ih=>
 obtain⟨i,v⟩:=zp;exact @λρ h=>by obtain⟨h1,h2⟩:=F8.mp h;rw[Gz,KX,EK,List.foldl_nil,EK];dsimp only;rw[ih h2,ahM h1]
theorem aeV{α β:Type}:∀{xs:List α}{ys:List β}{x:α}{y:β},xs.length=ys.length->(xs++[x]).zip (ys++[y])=xs.zip ys++[(x,y)]
 |[],[],_,_,_=>rfl
 |[],_::_,_,_,h=>by cases h
 |_::_,[],_,_,h=>by cases h
 |a::xs,b::ys,x,y,h=>CH (List.cons (a,b)) (aeV (by simpa using h))
theorem sa{α β:Type}:∀{xs:List α}{ys:List β},xs.length=ys.length->(xs.zip ys).reverse=xs.reverse.zip ys.reverse
 |[],[],_=>rfl
 |[],_::_,h=>by cases h
 |_::_,[],h=>by cases h
 |a::xs,b::ys,h=>by
  have h':xs.length=ys.length:=by simpa using h
  rw[Lk,Gz,Gz,Gz,aeV (by simpa using h'),sa h']
theorem apt{is:List Nat}(hn:is.Nodup)(h:dy is vs ρ=some ρ'):dy is.reverse vs.reverse ρ=some ρ':=by obtain⟨h1,h2⟩:=sq h;rw[ad6 (by simpa using h1),h2,<-sa h1,ahN (by rw[FY (CZ h1)];exact hn)]
end
theorem ahB(f:α->Option β)(l:List α):(l.filterMap f).length<=l.length:=List.length_filterMap_le f l
theorem ajT{f:CD->Option Str}(hf:∀x p y,f (.Name x p)=some y->y=x):∀{es:List CD}{xs:List Str},es.mapM dP=some xs->(es.filterMap f).length=es.length->es.filterMap f=xs:=by
 intro zi
 induction zi with
 |nil=>
 exact @λxs h Z=>by cases h;rfl
 |cons e es ih=>
 exact @λxs h hl=>by
  (obtain⟨x,p,ys,zq3,h1,zq5⟩:=nT h;subst zq3;clear h;subst zq5);have:=ahB f es
  cases q:f (.Name x p) with
  |none=>rw[List.filterMap_cons_none q] at hl;simp -iota at hl;exact(ame hl this).elim
  |some y=>rw[KS q] at hl⊢;rw[hf _ _ _ q,ih h1 (by simpa using hl)]
theorem nO{α:Sort _}{c:Prop}[Decidable c]{x y b:α}(h:¬c->b=x\/b=y):(if c then x else b)=x\/(if c then x else b)=y:=if e:c then .inl (CG e) else by rw[CJ e];exact h e
theorem aqa{v:CD}(hx:es.mapM dP=some xs)(hf:oZ v=true)(env:Env):
  swappedStores [.Tuple es k p] v env=pure none\/swappedStores [.Tuple es k p] v env=pure (some xs):=by
 delta swappedStores
 cases v with
 |Tuple vs k' p'=>have hf:(!vs.all (constantsAlone 8)||vs.all (foldedForSure 8))=true:=hf;dsimp only;refine nO λZ=>nO λZ=>nO λh3=>nO λh4=>?_;rw[CJ (by intro q;rw[q] at hf;simp -iota at hf;exact h4 (CV.mpr hf))];refine .inr ?_;simp -iota only[Ez,Fq,Fb,ne_eq,Decidable.not_not] at h3;show pure (some _)=pure (some _);rw(occs:=.all) [ajT ?_ hx h3.1];exact λx p y h=>(C0 (Option.ite_none_right_eq_some.mp h).2).symm
 |_=>exact .inl rfl
theorem tD.rev(hs:tD B μ vs cs):tD B μ vs.reverse cs.reverse:=by
 induction vs generalizing cs with
 |nil=>rw[hs.n];exact .nil
 |cons a vs ih=>obtain⟨_,_,e,h,hs⟩:=hs.c;rw[e,Gz,Gz];exact(ih hs).append (.cons h .nil)
section
variable {c:tG}
theorem afU:∀{t:List Nat}{vs:List AV}{tf:List Cy}{xs:List Str}{ρ:aB}{U:tm}{s:CC}{Q:Unit->CC->Prop},t.length=xs.length->dy t vs ρ=some ρ'->tD B μ vs tf->
  FS oc c.prog c.w U0 env vis ρ B μ H U s.heap->Off oc U0 env->bQ vis=true->env.scope.kind=.function->(∀i x,(i,x)∈t.zip xs->(i,x)∈vis/\iZ oc env x)->
  (∀h' U' t',FS oc c.prog c.w U0 env vis ρ' B μ H U' h'->Q () {s with heap:=h',toks:=t'})->CB (CA c.prog c.w) A (assignInOrder (xs.map λn=>bindName env n) tf) Q E s:=by
 intro zi
 induction zi with
 |nil=>
 exact @λvs tf xs ρ U s Q hl hs hv F of ok hk hz h=>by
  have:xs=[]:=Gw.mp hl.symm;clear hl hz;subst this
  cases vs with
  |nil=>cases hs;cases hv;exact wpAny_pure (h _ _ _ F)
  |cons v vs=>cases hs
 |cons i t ih=>
 exact @λvs tf xs ρ U s Q hl hs hv F of ok hk hz h=>by
  cases vs with
  |nil=>cases hs
  |cons v vs=>
   obtain⟨cv1,tf,e,ze,yE⟩:=(hv.c);clear hv;subst e
   cases xs with
   |nil=>cases hl
   |cons x xs=>obtain⟨h1,h2⟩:=hz i x (by simp);show CB _ _ (assignInOrder (bindName env x::xs.map λn=>bindName env n) _) _ _ _;refine MK (Iw (jL F of ok hk h1 h2 ze.xk λh' U' t' F' Z=>?_));exact ih (by simpa using hl) hs yE F' of ok hk (λj y hm=>hz j y (by simp -iota [hm])) h
end
section
variable {c:tG}{n:Nat}
theorem apK{is:List Nat}{e:PE}{v:CD}(hv:gz c n vis nk e v)(ht:TE vis nk e v)(hn:bM v=true)(hsf:oZ v=true)(uq:bQ vis=true)
  (hx:es.mapM dP=some xs) (hl:is.length=xs.length) (xY:fK vis nk is xs=true) (uU:is.Nodup):dD c n vis nk (.assign (.tup is) e) (.Assign [.Tuple es k p] v pos):=λU0 A env ρ B μ H U s Q E T F G P=>by
 replace P:=tu.to P E5.assign;rw[Nh];refine wpAny_bind (DN ?_);have zT:swapsWith v (some (.Tuple es k p)) pos.line env=pure false:=jD ht hn _ _ _;rw[show swapsWithSole [.Tuple es k p] v pos.line env=pure false from zT];refine wpAny_bind (wpAny_pure ?_);rw[CJ (by decide)];refine wpAny_bind ((hv U).v A env ρ 4 B μ H s _ E (T.es F) (cL F G) (iI F G P λv' H' B' th s' cv e F' G' w hB tJ P'=>?_));dsimp only at P'
 cases vO:c.Γ.hd with
 |true=>rw[vO] at P';exact P'.elim
 |false=>
  have hh:A.handled=none:=by
   rcases T.uU with⟨_,h⟩ |⟨h,_⟩
   ·exact h
   ·rw[vO] at h;cases h
  rw[vO] at P';simp -iota only[Fg,Fd] at P'
  cases q:bz H' is false v' ρ with
  |none=>rw[q] at P';exact P'.elim
  |some ρ'=>
   rw[q] at P';have hz:∀i x,(i,x)∈is.zip xs->(i,x)∈vis/\iZ true env x:=λi x hm=>⟨(jd xY hm).1,T.slot (jd xY hm).2⟩;rcases aqa hx hsf env with q2 |q2
   ·rw[q2];refine wpAny_bind (wpAny_pure ?_);show CB _ A (do assignAll cv [assign (.Tuple es k p) env];pure .next) Q E s'
    refine wpAny_bind (C1 (uA false (.inr hh) hx hl q w F' T.off uq T.kind hz λh' U' t' F2=>?_) (λZ Z x=>wpAny_pure x) λZ Z x=>x);exact P' B' th U' h' t' (λZ Z e=>e) (Pre.refl _) F2
   ·rw[q2];refine wpAny_bind (wpAny_pure ?_)
    show CB _ A (do rule "assign.swapped-stores";let items<-unpackItems cv xs.length none;assignInOrder (xs.reverse.map λn=>bindName env n) items.reverse;pure .next) Q E s'
    unfold bz at q;dsimp only at q
    cases qi:jA H' v' with
    |none=>rw[qi] at q;cases q
    |some vs=>
     rw[qi] at q;have q:dy is vs ρ=some ρ':=q;have hlen:=(sq q).1;refine wpAny_bind (HC (wpAny_bind (aeL hh F'.inv w qi (amg hl hlen) λtf h' t' yE I2=>?_)));refine wpAny_bind (afU (by simpa using hl) (apt uU q) yE.rev (F'.step (λZ Z e=>e) (Pre.refl _) I2) T.off uq T.kind (λi x hm=>?_) λh2 U' t2 F2=>wpAny_pure ?_)
     ·rw[<-sa hl] at hm;exact hz i x (List.mem_reverse.mp hm)
     ·exact P' B' th U' h2 t2 (λZ Z e=>e) (Pre.refl _) F2
end
theorem Inv.slots{base:CF}(I:Inv prog w B U μ H h)(b1:B.StaysIn base)(b2:∀a∈μ,∀o,h.get? a=some o->base.get? a=some o)
  (b3:∀a o,U a o->Ex o->base.get? a=some o) (b4:base.StaysIn h') (up:h.UpToSlots h'):Inv prog w B U μ H h' where
 base:=λb o e=>b4 b o (b1 b o e)
 us:=λa o hu=>by
  refine o_aaea (I.us a o hu) λh1 h2 sl h3 h4=>?_
  by_cases hx:Ex o
  ·exact(ft h1 h2 o.slots (b4 _ _ (b3 a o hu hx)) (λZ=>rfl))
  ·obtain⟨Cr,h5⟩:=up a _ h3 λvs q=>hx (.inl ⟨vs,q⟩);exact(ft h1 h2 Cr h5 (λq=>(hx q).elim))
 nodup:=I.nodup
 fresh:=I.fresh
 len:=I.len
 objs:=λi a o x y=>by obtain⟨ob,h1,h2⟩:=I.objs i a o x y;exact(ae ob (b4 _ _ (b2 a (Ea.mpr ⟨i,x⟩) ob h1)) h2)
def mF(base:CF)(h:CF)(e:Cz)(cls:Cy)(fl:Cy)(v2:Option Cy):Prop:=∃oe vs T oT ts,h.get? e=some oe/\oe.cls=cls/\oe.data=.fields vs/\vs[2]?=v2/\vs[1]?=some (.ref T)/\base.get? T=none/\T≠e/\h.get? T=some oT/\oT.data=.fields ts/\ts[3]?=some fl
section
theorem abL{base:CF}{e:Cz}{vs:Array Cy}{head:Cy}{arP:Bool}{Q:Unit->CC->Prop}
  (xz:A.frames=some (env::outer)) (hl:s.heap.FunFrames base (env::outer)) (hf:env.frame=some L)
  (he:s.heap.get? e=some oe) (Aq:base.StaysIn s.heap) (AR:base.get? e=none) (hd:oe.data=.fields vs) (t6:1<vs.size)
  (h:∀h',base.StaysIn h'->h'.FunFrames base (env::outer)->mF base h' e oe.cls (Dp L) vs[2]?->s.heap.UpToSlots h'->Q () {s with heap:=h'}):
  CB M A (do let a<-frameOf env;let pl<-entryPlaceOf L arP;let b<-Kd head a .none (Dp L) .none pl;setField (.ref e) 1 b) Q E s:=by
 have atl:e∉(env::outer).filterMap (·.frame):=λhm=>by refine o_aea (hl.mem hm) λZ o ho wu=>?_;rw[he] at ho;injection ho with ho;subst ho;exact wu vs hd
 refine wpAny_bind (wpAny_frameOf_fun xz hl hf λtj xF=>?_);refine wpAny_bind (wpAny_entryPlaceOf λpl yr=>?_);unfold Kd newFields;refine wpAny_bind (Iy ?_ (yr.sizeOk5 _ _ _ _ _));have asp:tj.get? e=some oe:=(xF.2.1 e atl).trans he;have k₁:base.StaysIn tj:=λb o yh=>(xF.2.1 b λhm=>by rw[(hl.mem hm).1] at yh;cases yh).trans (Aq b o yh)
 refine cX (({cls:=.type "traceback",dict:=none,data:=.fields ([head,.ref L,.none,Dp L,.none]++(if pl.isEmpty then CK 6 Dh else pl)).toArray}:Obj)) λnw att=>?_
 have uU:nw.data=.fields ([head,.ref L,.none,Dp L,.none]++(if pl.isEmpty then CK 6 Dh else pl)).toArray:=by rw[<-att]
 have asq:(tj.push nw).get? e=some oe:=C6 nw asp;have ata:(tj.push nw).get? tj.objs.size=some nw:=DA tj (Hn uU);refine Gi asq hd t6 (h _ ?_ ?_ ?_ ?_)
 all_goals
  have Ao:tj.objs.size≠e:=CW (Db asp);have keep:∀b o,b≠e->tj.get? b=some o->((tj.push nw).update e (FJ (·.setIfInBounds 1 (Di tj.objs.size)))).get? b=some o:=λb o BG hb=>by rw[Ed _ _ (Dn BG)];exact C6 _ hb
  have uC:∀b o,s.heap.get? b=some o->(∀vs,o.data≠.fields vs)->b≠e:=λb o hb wu q=>by rw[q,he] at hb;injection hb with hb;subst hb;exact wu vs hd
 ·exact λb o yh=>keep b o (λq=>by rw[q,AR] at yh;cases yh) (k₁ b o yh)
 ·exact hl.of_keeps λb o hb wu=>by obtain⟨sl,hs⟩:=xF.2.2 b o hb;exact(ae _ (keep b _ (uC b o hb wu) hs) rfl)
 ·have ar0:=Gc hd (·.setIfInBounds 1 (Di tj.objs.size));refine(iQ _ _ tj.objs.size nw _ (Em _ asq (Hn ar0)) (dv (Obj.cls_mapFields _ _) ar0 ?_ (by simp[t6]) k₁.fresh Ao (bT ?_ uU ?_)))
  ·rw[Array.getElem?_setIfInBounds_ne (by decide)]
  ·rw[Ed _ _ (Dn Ao)];exact ata
  ·first |(simp;done) |(rcases yr with rfl |⟨_,_,_,_,_,_,_,rfl⟩<;>simp)
 ·exact λb o hb wu=>by obtain⟨sl,hs⟩:=xF.2.2 b o hb;exact⟨sl,keep b _ (uC b o hb wu) hs⟩
theorem aj6{base:CF}{e:Cz}{vs:Array Cy}{Q:Unit->CC->Prop}
  (xz:A.frames=some (env::outer)) (hl:s.heap.FunFrames base (env::outer)) (hf:env.frame=some L) (he:s.heap.get? e=some oe) (Aq:base.StaysIn s.heap) (AR:base.get? e=none) (hd:oe.data=.fields vs)
  (h1:vs[1]?=some .none\/∃T oT ts fl,vs[1]?=some (.ref T)/\base.get? T=none/\T≠e/\s.heap.get? T=some oT/\oT.data=.fields ts/\ts[3]?=some fl/\(fl=.none\/∃yI L',(env::outer).head? =some yI/\yI.frame=some L'/\fl=Dp L'))
  (h:∀h',base.StaysIn h'->h'.FunFrames base (env::outer)->mF base h' e oe.cls (Dp L) vs[2]?->s.heap.UpToSlots h'->Q () {s with heap:=h'}):CB M A (noteFrame (.ref e) env) Q E s:=by
 unfold noteFrame;simp only[hf];rcases h1 with h1 |⟨T,oT,ts,fl,h1,hnT,Ao,hT,AQ,h3,AT⟩
 ·refine wpAny_bind (EI he hd h1 ?_);rw[CJ (by decide)];exact abL xz hl hf he Aq AR hd (Gj.mp h1).1 h
 ·refine wpAny_bind (EI he hd h1 ?_);rw[CG (show(Di T !=Dh)=true from by simp)];refine wpAny_bind (EI hT AQ h3 ?_);rcases AT with rfl |⟨yI,L',q1,q2,rfl⟩
  ·rw[CJ (show ¬((Dh==Dp L)=true) from by simp[Dp])];refine wpAny_bind (Gi hT AQ (Gj.mp h3).1 ?_);have other:∀b,b≠T->(s.heap.update T (FJ (·.setIfInBounds 3 Dh))).get? b=s.heap.get? b:=λb hb=>Ed _ _ (Dn hb);have uC:∀b o,s.heap.get? b=some o->(∀vs,o.data≠.fields vs)->b≠T:=λb o hb wu q=>by
    rw[q,hT] at hb;injection hb with hb;subst hb;exact wu ts AQ
   exact abL xz (hl.of_keeps λb o hb wu=>(ae o ((other b (uC b o hb wu)).trans hb) rfl)) hf ((other e (Dn Ao)).trans he)
    (λb o yh=>(other b λq=>by rw[q,hnT] at yh;cases yh).trans (Aq b o yh)) AR hd (Gj.mp h1).1
    λh' x1 x2 x3 x4=>h h' x1 x2 x3 λb o hb wu=>x4 b o ((other b (uC b o hb wu)).trans hb) wu
  ·obtain rfl:env=yI:=by simpa using q1
   rw[hf] at q2;cases q2;rw[CG (show(Dp L==Dp L)=true from by simp)];exact wpAny_pure (h _ Aq hl (iQ oe vs T oT ts he (dv rfl hd rfl h1 hnT Ao (bT hT AQ h3))) (.refl _))
end
section
variable {c:tG}
def vt(U:tm)(fs:List Env)(k:Nat)(B:CF)(μ:List Cz)(h:CF)(e:Cz)(L:Cz):Prop:=
 ∃base:CF,B.StaysIn base/\(∀a∈μ,∀o,h.get? a=some o->base.get? a=some o)/\(∀a o,U a o->Ex o->base.get? a=some o)/\base.StaysIn h/\base.get? e=none/\h.FunFrames base fs/\
  mF base h e (.ref (aT k)) (Dp L) (some .none)
theorem vt.exc{fs:List Env}{e:Cz}(x:vt U fs k B μ h e L)(AU:fs=env::outer)(hf:env.frame=some L):hJ U fs k B μ h e:=by(revert x;refine r_eaaaaa λbase b1 b2 b3 b4 b5=>r_aeeeee λb6 oe vs T oT ts=>r_aaaaaa λg1 g2 g3 g4 g5 g6=>r_aaa λg7 g8 g9 yC=>?_);exact(gb base b1 b2 b3 b4 b5 (eH b6 oe vs g1 g2 g3 (bE (.inr (ef T oT ts _ g5 g6 (gM g7 g8 g9 yC (.inr (ax env L (by rw[AU];rfl) hf rfl))))) g4)))
theorem nY{e:Cz}{Q:Unit->CC->Prop}(xz:A.frames=some c.fs)(AU:c.fs=env::outer)(hf:env.frame=some L)(I:Inv c.prog c.w B U μ H s.heap)(X:hJ U c.fs k B μ s.heap e)
  (h:∀h',Inv c.prog c.w B U μ H h'->vt U c.fs k B μ h' e L->Q () {s with heap:=h'}):CB (CA c.prog c.w) A (noteFrame (.ref e) env) Q E s:=by
 (revert X;refine r_eaaaaa λbase b1 b2 b3 b4 b5=>r_aeeaaa λb6 oe vs g1 g2 g3=>r_a λg4 g5=>?_);rw[AU] at xz b6 g4;refine aj6 xz b6 hf g1 b4 b5 g3 (g4.imp id λzl=>o_eeeeaa zl λT oT ts fl q1 q2=>r_aaaa λq3 q4 q5 q6 q7=>(ef T oT ts fl q1 q2 (gM q3 q4 q5 q6 q7))) λh' x1 x2 x3 x4=>?_;refine h h' (I.slots b1 b2 b3 x1 x4) (gb base b1 (λa ha o e=>?_) b3 x1 b5 (bE (by rw[AU];exact x2) ?_))
 ·obtain⟨i,hi⟩:=Ea.mp ha;have hl:i<H.length:=I.len▸(List.getElem?_eq_some_iff.mp hi).1;obtain⟨ob,wJ,_⟩:=I.objs i a H[i] hi (List.getElem?_eq_getElem hl);have:=b2 a ha ob wJ;have:=x1 _ _ this;rw[e] at this;cases this;exact b2 a ha _ wJ
 ·rw[g2,g5] at x3;exact x3
end
section
variable {c:tG}
theorem aa0{e:Cz}(hf:env.frame=some L)(I:Inv c.prog c.w B U μ H s.heap)(X:vt U c.fs k B μ s.heap e L)
  (h:∀h',Inv c.prog c.w B U μ H h'->vt U c.fs k B μ h' e L->E (.ref e) {s with heap:=h'}):cameBackBy (CA c.prog c.w) A env E (.ref e) s:=by
 (revert X;refine r_eaaaaa λbase b1 b2 b3 b4 b5=>r_aeeeee λb6 oe vs T oT ts=>r_aaaaaa λg1 g2 g3 g4 g5 g6=>r_aaa λg7 g8 g9 yC=>?_);have t6:3<ts.size:=(Gj.mp yC).1;have other:∀b,b≠T->(s.heap.update T (FJ (·.setIfInBounds 3 (Dp L)))).get? b=s.heap.get? b:=λb hb=>Ed _ _ (Dn hb);have uC:∀b o,s.heap.get? b=some o->(∀vs,o.data≠.fields vs)->b≠T:=λb o hb wu q=>by rw[q,g8] at hb;injection hb with hb;subst hb;exact wu ts g9
 have hB:∀b o,base.get? b=some o->b≠T:=λb o e q=>by rw[q,g6] at e;cases e
 have st:base.StaysIn (s.heap.update T (FJ (·.setIfInBounds 3 (Dp L)))):=λb o e=>(other b (hB b o e)).trans (b4 b o e);unfold cameBackBy;refine wpAny_bind (EI g1 g3 g5 ?_);rw[CJ (by simp)];unfold setFlight;refine wpAny_bind (EI g1 g3 g5 ?_);rw[CG (show(Di T !=Dh)=true from by simp),hf];refine Gi g8 g9 t6 (h _ (I.slots b1 b2 b3 st λb o e hn=>⟨o.slots,(other b (uC b o e hn)).trans e⟩) (gb base b1 (λa ha o e=>?_) b3 st b5 (bE (b6.of_keeps λb o e hn=>(ae o ((other b (uC b o e hn)).trans e) rfl)) ?_)))
 ·obtain⟨i,hi⟩:=Ea.mp ha;have hl:i<H.length:=I.len▸(List.getElem?_eq_some_iff.mp hi).1;obtain⟨ob,wJ,_⟩:=I.objs i a H[i] hi (List.getElem?_eq_getElem hl);have q:=b2 a ha ob wJ;have q2:=(st _ _ q).symm.trans e;cases q2;exact q
 ·exact(iQ oe vs T _ _ ((other e (Dn g7)).trans g1) (dv g2 g3 g4 g5 g6 g7 (bT (Em _ g8 (Hn (Gc g9 _))) (Gc g9 _) (by simp[t6]))))
theorem an8{n:Nat}{e:Cz}(T:FE c U0 A env nk n)(F:FS true c.prog c.w U0 env vis ρ B μ H U s.heap)(X:hJ U c.fs k B μ s.heap e)
  (h:∀h',FS true c.prog c.w U0 env vis ρ B μ H U h'->hJ U c.fs k B μ h' e->E (.ref e) {s with heap:=h'}):
  notedBy (CA c.prog c.w) A env (λe s'=>cameBackBy (CA c.prog c.w) A env E e s') (.ref e) s:=by
 obtain⟨yB,h1,h2,h3⟩:=(T.top);refine nY T.frames h1 h2 F.inv X λh' I x=>?_;refine aa0 h2 I x λyd I2 x2=>?_;exact h yd (F.step (λZ Z e=>e) (Pre.refl _) I2) (x2.exc h1 h2)
theorem tu.loop{n:Nat}{r:R Fl}{Q:Flow->CC->Prop}(T:FE c U0 A env nk n)(P:tu c U0 env vis s B μ r Q E):
  tu c U0 env vis s B μ r Q (notedBy (CA c.prog c.w) A env λe s'=>cameBackBy (CA c.prog c.w) A env E e s'):=by
 cases r with
 |ok fl H'=>cases fl<;>exact P
 |exc k H'=>exact λB' th U' h' t' e ρ' x y F w=>an8 T F w λh2 F2 w2=>P B' th U' h2 t' e ρ' x y F2 w2
 |bad=>exact P
end
section
variable {c:tG}{n:Nat}
theorem apV{d:PE}{b:tQ}{t:CD}{x:List Stmt}(hd:gz c n vis nk d t)(hb:d9 c n vis nk b x):dD c n vis nk (.uO d b) (.While t x [] pos):=λU0 A env ρ B μ H U s Q E T F G P=>by
 replace P:=tu.to P E5.uO;refine wpAny_While (codeAny_whileLoop (λm s=>∃ρ B μ H U,FS true c.prog c.w U0 env vis ρ B μ H U s.heap/\uk c.prog c.w B/\
  tu c U0 env vis s B μ (dZ (λρ H=>ev c.Γ d 4 ρ H) (λρ H=>CE c.Γ b ρ H) m ρ H) Q (notedBy (CA c.prog c.w) A env λe s'=>cameBackBy (CA c.prog c.w) A env E e s')) ?_ c.Γ.wf (iQ ρ B μ H U F (bE G (P.loop T))))
 intro m s xZ;(revert xZ;refine r_eeeeea λρ B μ H U F=>r_a λG P=>?_)
 cases m with
 |zero=>exact P.elim
 |succ m=>
  replace P:=tu.to P E9.s;refine(hd U).b A env ρ 4 B μ H s _ _ (T.es F) (cL F G) (aeB (g:=λz H=>if z then(CE c.Γ b ρ H).bind λfl H=>match fl with
   | .next ρ=>dZ (λρ H=>ev c.Γ d 4 ρ H) (λρ H=>CE c.Γ b ρ H) m ρ H
   | .ret v=>.ok (.ret v) H else .ok (.next ρ) H) F G P λz H' B' th s' e F' G' hB tJ P'=>?_)
  cases z with
  |false=>refine Fe ?_;exact P' B' th U s'.heap s'.toks (λZ Z e=>e) (Pre.refl _) F'
  |true=>refine hb U0 A env ρ B' th H' U s' _ _ T F' G' (aen G' P' (λBc H2 B2 vF U2 s2 e2 F2 G2 uW ud P2=>?_) λcv s' q=>q);exact(ace m (DU m) Bc B2 vF H2 (aI U2 F2 G2 P2))
end
section
theorem FS.as6(F:FS true prog w U0 env vis ρ B μ H U h){a:Cz}(um:a≠env.locals)(hold:∀o,h.get? a=some o->∀v,o.data≠.cell v)(nU:∀p,¬U0 a p)(hU:∀b p,b≠a->(U' b p↔U b p))(I:Inv prog w B U' μ H h'):
  FS true prog w U0 env vis ρ B μ H U' h':=by
 have hc:∀b o v,U b o->o.data=.cell v->b≠a:=by rintro b o v hu hd rfl;refine o_aaea (F.inv.us _ _ hu) λZ Z sl e Z=>?_;exact hold _ e _ hd
 refine⟨I,?_,?_,λb p hu=>(hU b p (λq=>nU p (q▸hu))).mpr (F.keep b p hu)⟩
 ·intro i x v h1 h2 h3;obtain⟨cv,g1,g2⟩:=F.nm i x v h1 h2 h3;refine(ae cv g1 ?_);rcases g2 with⟨g3,o,g4,g5⟩ |⟨g3,b,o,g4,g5,g6,g7⟩
  ·exact .inl (jv g3 o ((hU _ _ um.symm).mpr g4) g5)
  ·exact .inr (eH g3 b o g4 ((hU _ _ (hc _ _ _ g5 g6)).mpr g5) g6 g7)
 ·obtain⟨o,es,ep,g1,g2,g3⟩:=(F.own.dict);refine⟨(bZ o es ep ((hU _ _ um.symm).mpr g1) g2 g3),?_,λq x b e1 e2=>?_,F.own.apart,F.own.off⟩
  ·intro b hb p q' hp hq;have wY:b≠a:=by
    rcases hb with rfl |⟨q,x,e1,e2⟩
    ·exact um.symm
    ·obtain⟨o,v,g4,g5⟩:=F.own.cell q x b e1 e2;exact hc _ _ _ g4 g5
   exact F.own.one b hb p q' ((hU _ _ wY).mp hp) ((hU _ _ wY).mp hq)
  ·obtain⟨o,v,g4,g5⟩:=F.own.cell q x b e1 e2;exact(bR o v ((hU _ _ (hc _ _ _ g4 g5)).mpr g4) g5)
theorem FS.wA(F:FS true prog w U0 env vis ρ B μ H U h){a:Cz}{o':Obj}(um:a≠env.locals)(hold:∀o,h.get? a=some o->∀v,o.data≠.cell v)(nB:B.get? a=none)(nM:a∉μ)(nU:∀p,¬U0 a p)(hs:Dz a h h')(e':h'.get? a=some o'):
  FS true prog w U0 env vis ρ B μ H (U.put a o') h':=F.as6 um hold nU (λb p hb=>⟨λx=>x.elim (·.2) λq=>CI q.1 hb,λx=>.inl ⟨hb,x⟩⟩) (F.inv.wj hs e' nB nM)
theorem FS.arX(F:FS true prog w U0 env vis ρ B μ H U h){a:Cz}(um:a≠env.locals)(hold:∀o,h.get? a=some o->∀v,o.data≠.cell v)(nB:B.get? a=none)(nM:a∉μ)(nU:∀p,¬U0 a p)(hs:Dz a h h'):
  FS true prog w U0 env vis ρ B μ H (λb p=>b≠a/\U b p) h':=F.as6 um hold nU (λb p hb=>⟨λx=>x.2,λx=>⟨hb,x⟩⟩)
   ((F.inv.less λZ Z x=>x.2).but hs nB nM λo x=>x.1 rfl)
theorem FS.up{a:Cz}{o:Obj}(F:FS true prog w U0 env vis ρ B μ H U h)(hu:U a o):FS true prog w (U0.put a o) env vis ρ B μ H U h:=⟨F.inv,F.nm,F.own,λb p x=>x.elim (λq=>F.keep b p q.2) λq=>by clear x;obtain⟨rfl,rfl⟩:=q;exact hu⟩
theorem FS.weak(F:FS true prog w U0' env vis ρ B μ H U h)(le:∀b p,U0 b p->U0' b p):FS true prog w U0 env vis ρ B μ H U h:=⟨F.inv,F.nm,F.own,λb p x=>F.keep b p (le b p x)⟩
end
section
variable {c:tG}{n:Nat}
theorem FE.put{a:Cz}{o:Obj}(T:FE c U0 A env nk n)(nU:∀p,¬U0 a p)(um:a≠env.locals)(hc:∀x b,env.cells.lookup x=some b->env.kindOf x=some .cell->b≠a):FE c (U0.put a o) A env nk n where
 kind:=T.kind
 glob:=T.glob
 blt:=T.blt
 kinds:=T.kinds
 cls:=T.cls
 frames:=T.frames
 top:=by obtain⟨yB,h1,h2,h3⟩:=T.top;refine(aI yB h1 h2 (λe he=>?_));refine o_aeeaa (h3 e he) λh4 L o h5 h6 h7=>?_;exact(jw h4 L o h5 (tm.tO (λq=>nU o (q▸h6)) h6) h7)
 deep:=T.deep
 units:=T.units
 uU:=by
  rcases T.uU with h |⟨h1,h2,x,o,vs,h3,h4,h5⟩
  ·exact .inl h
  ·exact .inr (nj h1 h2 x o vs h3 (bE (tm.tO (λq=>nU o (q▸h4)) h4) h5))
 off:=⟨λp h=>h.elim (λq=>T.off.loc p q.2) λq=>um q.1.symm,λq x b p e1 e2 h=>h.elim (λz=>T.off.cell q x b p e1 e2 z.2) λz=>hc x b e1 e2 z.1⟩
theorem apX{r:R Fl}{f:aB->AH->R Fl}{Q:Flow->CC->Prop}{Q₁:Flow->CC->Prop}(le:∀b p,U0 b p->U0' b p)(G:uk c.prog c.w B)
  (P:tu c U0 env vis s B μ (r.bind λfl H=>match fl with | .next ρ=>f ρ H | .ret v=>.ok (.ret v) H) Q E)
  (k:∀ρ' H' B' th U' (s':CC),r=.ok (.next ρ') H'->FS true c.prog c.w U0' env vis ρ' B' th H' U' s'.heap->uk c.prog c.w B'->B.StaysIn B'->Pre μ th->tu c U0 env vis s' B' th (f ρ' H') Q E->Q₁ .next s')
  (k2:∀cv (s':CC),Q (.ret cv) s'->Q₁ (.ret cv) s'):tu c U0' env vis s B μ r Q₁ E:=by
 cases r with
 |ok fl H'=>
  cases fl with
  |next ρ'=>exact λB' th U' h' t' x y F=>k ρ' H' B' th U' {s with heap:=h',toks:=t'} rfl F (G.mono x) x y (tu.shift P x y h' t')
  |ret v=>exact λB' th U' h' t' cv ρ' x y F w=>k2 cv _ (P B' th U' h' t' cv ρ' x y (F.weak le) w)
 |exc j H'=>exact λB' th U' h' t' e ρ' x y F w=>P B' th U' h' t' e ρ' x y (F.weak le) w
 |bad=>exact P
end
section
variable {R:Result->CC->Prop}
theorem ahR{it:Cy}(I:Nat->CC->Prop)
  {E4:Cy->CC->Prop} (hE4:∀e s',E4 e s'->notedBy (CA prog w) A env (λe s'=>R (.error e) s') e s')
  (turn:∀n s (N:CC->Prop) (K1:Option Cy->CC->Prop) (K4:Flow->CC->Prop),(∀m s,m<n->I m s->N s)->(∀td,R (.ok .next) td->K1 none td)->(∀ue,N ue->K4 .next ue)->(∀v ue,R (.ok (.ret v)) ue->K4 (.ret v) ue)->
   (∀v td,CB (CA prog w) A (FO target it v) (λZ uV=>CB (CA prog w) A (assign target env v) (λZ tF=>CB (CA prog w) A (Dw body env) K4 E4 tF) (λZ Z=>False) uV) (λZ Z=>False) td->K1 (some v) td)->I n s->CB (CA prog w) A (pyNext it) K1 (λZ Z=>False) s)
  (n:Nat) (h:I n s):codeAny (CA prog w) A (.forLoop target it body [] env) R s:=by
 refine codeAny_loop' rfl I (λn s hI=>?_) n h;show CB _ _ ((forTurn target it body [] env).onRaise (λx=>do noteFrame x env;theTreesLotGoes x)) _ _ s
 refine JT ?_;simp -iota only[forTurn];refine wpAny_bind (DN (wpAny_bind (wpAny_onRaise (C1 (turn n s (λs=>∃m,m<n/\I m s) (λr td=>match r with
   |none=>R (.ok .next) td
   |some v=>CB (CA prog w) A (FO target it v) (λZ uV=>CB (CA prog w) A (assign target env v) (λZ tF=>CB (CA prog w) A (Dw body env) (λf ue=>match f with
     | .next | .cont=>∃m,m<n/\I m ue
     | .brk=>R (.ok .next) ue
     | .ret v=>R (.ok (.ret v)) ue) E4 tF) (λZ Z=>False) uV) (λZ Z=>False) td) _ (λm Z a b=>⟨m,a,b⟩) (λZ h=>h) (λZ h=>h) (λZ Z h=>h) (λZ Z h=>h) hI) (λr td tj=>?_) λZ Z h'=>h'.elim))))
 cases r with
 |none=>exact wpAny_pure (.inr ⟨rfl,codeAny_block (Fe tj)⟩)
 |some v=>
  refine wpAny_bind (C1 tj (λZ uV xd=>?_) λZ Z h'=>h'.elim);refine wpAny_bind (C1 xd (λZ tF tU=>wpAny_bind (C1 tU (λf ue vI=>?_) hE4)) λZ Z h'=>h'.elim)
  cases f with
  |next=>exact wpAny_pure (.inl ⟨rfl,vI⟩)
  |cont=>exact wpAny_pure (.inl ⟨rfl,vI⟩)
  |brk=>exact wpAny_pure vI
  |ret v=>exact wpAny_pure vI
end
section
variable {c:tG}{n:Nat}
theorem apN{t:List Nat}{ie:PE}{b:tQ}{x:List Stmt}(hi:gz c n vis nk ie vq)(ht:TE vis nk ie vq)(uq:bQ vis=true)
  (hx:cZ one tg=some xs) (hl:t.length=xs.length) (xY:fK vis nk t xs=true) (hb:d9 c n vis nk b x):dD c n vis nk (.for t one ie b) (.For tg vq x [] pos):=λU0 A env ρ B μ H U s Q E T F G P=>by
 replace P:=tu.to P E5.for
 cases vO:c.Γ.hd with
 |true=>rw[vO] at P;exact P.elim
 |false=>
  have hh:A.handled=none:=by
   rcases T.uU with⟨_,h⟩ |⟨h,_⟩
   ·exact h
   ·rw[vO] at h;cases h
  rw[vO] at P;simp -iota only[Fg,Fd] at P;have hz:∀i x,(i,x)∈t.zip xs->(i,x)∈vis/\iZ true env x:=λi x hm=>⟨(jd xY hm).1,T.slot (jd xY hm).2⟩;refine wpAny_For ((hi U).v A env ρ 4 B μ H s _ E (T.es F) (cL F G) (iI F G P λsrc H' B' th s' x9 e F' G' w hB tJ P'=>?_)) (λx=>rH ht env x)
  cases qi:aS H' src 0 with
  |none=>replace P':=tu.to P' E8.s;rw[qi] at P';exact P'.elim
  |some r=>
   refine oE (c:=c.tz U) F'.inv w qi λo xI=>?_;have nB:=F'.inv.xh;have nM:=F'.inv.nextM;have nU:=F'.inv.wy;(revert xI nB nM nU;refine cX s'.heap.objs.size λit hit xI nB nM nU=>?_);obtain⟨oI,eI,fI⟩:=(xI.obj);have xq:∀p,¬U0 it p:=λp hu=>nU p (F'.keep _ _ hu);have um:it≠env.locals:=by obtain⟨o,es,ep,g1,_⟩:=F'.own.dict;exact λq=>nU o (q▸g1)
   have vT:∀x b,env.cells.lookup x=some b->env.kindOf x=some .cell->b≠it:=λx b e1 e2=>by obtain⟨o,v,g4,_⟩:=F'.own.cell rfl x b e1 e2;exact λq=>nU o (q▸g4)
   have ur:∀{h:CF}{o:Obj},h.get? it=some o->d6 o->∀o,h.get? it=some o->∀v,o.data≠.cell v:=λe ⟨vs,f⟩ o e2 v q=>by rw[e] at e2;cases e2;rw[f] at q;cases q
   have F0:FS true c.prog c.w U0 env vis ρ B' th H' (U.put it oI) (s'.heap.push o):=(F'.step (λZ Z e=>e) (Pre.refl _) (F'.inv.push o)).wA um (ur eI fI) nB nM xq (λZ Z Z e=>e) eI;have BB:∃E2:Cy->CC->Prop,(∀e s',E2 e s'->notedBy (CA c.prog c.w) A env (λe s'=>cameBackBy (CA c.prog c.w) A env E e s') e s')/\tu c U0 env vis {s' with heap:=s'.heap.push o,toks:=s'.toks} B' th (ga (λH j=>aS H src j) (λv ρ H=>match bz H t one v ρ with
     |some ρ=>CE c.Γ b ρ H
     |none=>.bad) (cJ H' src+1) 0 ρ H') Q E2:=(ae _ (λZ Z h=>h) ((tu.shift P' (λZ Z e=>e) (Pre.refl _) (s'.heap.push o) s'.toks).loop T))
   obtain⟨E2,BB,P'⟩:=BB;refine ahR (λm s=>∃j ρ B μ H U oI,FS true c.prog c.w U0 env vis ρ B μ H U s.heap/\uk c.prog c.w B/\wn B μ src j s.heap it/\U it oI/\d6 oI/\
    tu c U0 env vis s B μ (ga (λH j=>aS H src j) (λv ρ H=>match bz H t one v ρ with
     |some ρ=>CE c.Γ b ρ H
     |none=>.bad) m j ρ H) Q E2) BB ?_ (cJ H' src+1)
    (dT 0 ρ B' th H' _ (gb oI F0 G' xI (tm.tV _ _ _) fI P'))
   intro m s N K1 K4 hN k0 k4n k4r k1 xZ;(revert xZ;refine r_eeeeee λj ρ B μ H U=>r_eaaaaa λoI F G xI wI fI P=>?_)
   cases m with
   |zero=>exact P.elim
   |succ m=>
    replace P:=tu.to P E8.s;obtain⟨nB,nM,_⟩:=F.inv.us it oI wI;have eI:=F.inv.at_ wI (.inl fI)
    cases qi:aS H src j with
    |none=>rw[qi] at P;exact P.elim
    |some r=>
     rw[qi] at P;refine mr (c:=c.tz U) hh F.inv xI qi (λv cv h' t' e hv x' hs=>?_) λh' e hs=>?_
     ·clear qi;subst e;refine k1 _ _ ?_;dsimp only at P;obtain⟨zg,Ae,Ai⟩:=(x'.obj);have F1:=(F.wA um (ur eI fI) nB nM xq hs Ae).up (tm.tV _ _ _);have T':=T.put (o:=zg) xq um vT;refine rl (s:={s with heap:=h',toks:=t'}) x' ?_
      cases qb:bz H t one v ρ with
      |none=>rw[qb] at P;exact P.elim
      |some Bc=>
       rw[qb] at P;refine uA (s:={s with heap:=h',toks:=t'}) one (.inr hh) hx hl qb hv F1 T'.off uq T'.kind hz λh2 U2 t2 F2=>?_;refine hb (U0.put it zg) A env Bc B μ H U2 _ _ _ T' F2 G (apX (f:=λρ H=>ga (λH j=>aS H src j) (λv ρ H=>match bz H t one v ρ with
        |some ρ=>CE c.Γ b ρ H
        |none=>.bad) m (j+1) ρ H) (λb p hu=>tm.tO (λq=>xq p (q▸hu)) hu) G (tu.shift P (λZ Z e=>e) (Pre.refl _) h2 t2) (λρ3 H3 B3 y4 U3 s3 e3 F3 G3 vS uS P3=>?_) k4r)
       have w3:=F3.keep _ _ (tm.tV U0 it zg);have e3:=F3.inv.at_ w3 (.inl Ai);exact k4n _ (hN m _ (DU m) (iP (j+1) ρ3 B3 y4 (ce H3 U3 zg (F3.weak λb p hu=>tm.tO (λq=>xq p (q▸hu)) hu) G3 (x'.at_ (λo e=>by rw[Ae] at e;cases e;exact e3) vS uS) (bT w3 Ai P3))))
     ·clear qi;subst e;dsimp only at P;exact k0 _ (P B μ _ h' s.toks (λZ Z e=>e) (Pre.refl _) (F.arX um (ur eI fI) nB nM xq hs))
end
theorem ahG{f g:α->Option β}:∀{l:List α},(∀x∈l,f x=g x)->l.filterMap f=l.filterMap g:=by
 intro zi
 induction zi with
 |nil=>
 exact @λZ=>rfl
 |cons x l ih=>
 exact @λh=>by rw[Gv,Gv,h x Ds,ih λy hy=>h y (Dm _ hy)]
theorem ard:∀{ps:List Str}{cs:List α},ps.Nodup->ps.length=cs.length->ps.filterMap (λn=>((ps.zip cs).lookup n).map (n,·))=ps.zip cs:=by
 intro ps cs hn hl;have key:∀(l:List (Str×α)),(l.map (·.1)).Nodup->(l.map (·.1)).filterMap (λn=>(l.lookup n).map (n,·))=l:=by
  intro l
  induction l with
  |nil=>intro _;rfl
  |cons p l ih=>intro hn;obtain⟨h1,h2⟩:=F8.mp hn;obtain⟨x,v⟩:=p;rw[DS,KS (b:=(x,v)) (by simp)];congr 1;refine Eq.trans ?_ (ih h2);refine ahG λy hy=>?_;rw[EA,EF.mpr (λ(e:y=x)=>h1 (by clear hn h1;subst e;exact hy))]
 have:=key (ps.zip cs) (by rw[FY (CZ hl)];exact hn);rw[FY (CZ hl)] at this;exact this
theorem ach{α:Type}:∀{ps:List Str}{cs:List α},ps.length=cs.length->∀x∈ps,((ps.zip cs).lookup x).isNone=false
 |[],_,_,x,h=>by cases h
 |p::ps,[],h,_,_=>by cases h
 |p::ps,c::cs,h,x,hm=>by
  rw[Lk,EA]
  cases q:x==p with
  |true=>rfl
  |false=>
   rcases CR.mp hm with rfl |hm
   ·simp at q
   ·exact ach (by simpa using h) x hm
theorem ba1{a b:Nat}(h:a=b):¬((decide (b>a)&&true)=true):=by subst h;rw[Dx (CS a)];exact HJ
theorem ba2{ps:List Str}(hl:ps.length=tf.length)(k:Nat):¬((!((ps.take k).filter λn=>((ps.zip tf).lookup n).isNone).isEmpty)=true):=by rw[List.filter_eq_nil_iff.mpr λx hx=>by rw[ach hl x (Ic hx)];decide];decide
theorem ba3{σ:Type}(l:List α)(m:Nat)(init:σ)(f:α×β->σ->Sem (ForInStep σ)):forIn (l.zip (IZ m ([]:List β))) init f=pure init:=by rw[Jc,List.zip_nil_right];rfl
theorem lB{ps:List Str}(ha:mO fd.params ps=true)(hd:fd.defaults=.none)(hn:ps.Nodup)(hl:ps.length=tf.length):bindArgs fd ⟨tf,[]⟩=pure (ps.zip tf):=by obtain⟨_,_,⟨pa,ar,va,ko,kd,kw,df⟩,_,_,_,_,d,_⟩:=fd;simp only[mO,Bool.and_eq_true,DR,Es,C9] at ha;obtain⟨⟨⟨⟨⟨⟨⟨h1,h2⟩,h3⟩,h4⟩,h5⟩,h6⟩,h7⟩,h8⟩:=ha;subst h1 h2 h3 h4 h7 hd;clear h5 h6 h8;refine(CJ (ba1 hl)).trans ((CJ (ba2 hl _)).trans ((CH (λx:Sem _=>x>>=_) (ba3 _ _ _ _)).trans ?_));exact CH (pure (f:=Sem)) ((CH _ (Dk _)).trans (ard hn hl))
theorem afS{kd:Str->Option NameKind}:∀{b:List (Str×Cy)}{m:Str->Option Cy}{x:Str},x∉b.map (·.1)->bindL kd b m x=m x:=by
 intro zi
 induction zi with
 |nil=>
 exact @λZ Z Z=>rfl
 |cons zp r ih=>
 obtain⟨n,v⟩:=zp;exact @λm x h=>by
  simp only[DS,CR,Fq] at h;unfold bindL;rw[ih h.2]
  split
  ·exact CJ h.1
  ·rfl
theorem afR{kd:Str->Option NameKind}:∀{b:List (Str×Cy)}{m:Str->Option Cy}{x:Str},x∉b.map (·.1)->bindC kd b m x=m x:=by
 intro zi
 induction zi with
 |nil=>
 exact @λZ Z Z=>rfl
 |cons zp r ih=>
 obtain⟨n,v⟩:=zp;exact @λm x h=>by
  simp only[DS,CR,Fq] at h;unfold bindC;rw[ih h.2]
  split
  ·rfl
  ·exact CJ h.1
theorem mW{kd:Str->Option NameKind}{b:List (Str×Cy)}{m m':Str->Option Cy}{v:Cy}(hn:(b.map (·.1)).Nodup)(h:(x,v)∈b):(kd x=some .local->bindL kd b m x=some v)/\(kd x≠some .local->bindC kd b m' x=some v):=by
 induction b generalizing m m' with
 |nil=>cases h
 |cons p r ih=>
  obtain⟨n,u⟩:=p;obtain⟨h1,h2⟩:=F8.mp hn;rcases CR.mp h with e |h
  ·clear hn h;cases e;unfold bindL bindC;rw[afS h1,afR h1];exact⟨λq=>by rw[CG q];simp,λq=>by rw[CJ q];simp⟩
  ·unfold bindL bindC;exact ih h2 h
theorem mZ:∀{names:List (Str×NameKind)}{n:Nat}{acc:List (Str×Cz)}{x:Str},(acc.lookup x).isSome=true\/(x,GB)∈names->((cellsFrom n names acc).lookup x).isSome=true:=by
 intro zi
 induction zi with
 |nil=>
 exact @λn acc x h=>by
  rcases h with h |h
  ·exact h
  ·cases h
 |cons zp r ih=>
 obtain⟨y,k⟩:=zp;exact @λn acc x h=>by
  unfold cellsFrom
  split
  ·rename_i hk
   refine ih ?_;rcases h with h |h
   ·left;rw[EA];cases x==y<;>first |rfl |exact h
   ·rcases CR.mp h with e |h
    ·clear hk h;cases e;left;rw[EA];simp
    ·exact .inr h
  ·rename_i hk
   refine ih ?_;rcases h with h |h
   ·exact .inl h
   ·rcases CR.mp h with e |h
    ·clear h;cases e;exact CI (show(GB==GB)=true from rfl) hk
    ·exact .inr h
theorem agq:∀{names:List (Str×NameKind)}{n:Nat}{acc:List (Str×Cz)}{x:Str}{a:Cz},(x,a)∈cellsFrom n names acc->(x,a)∈acc\/(x,GB)∈names:=by
 intro zi
 induction zi with
 |nil=>
 exact @λn acc x a h=>.inl h
 |cons zp r ih=>
 obtain⟨y,k⟩:=zp;exact @λn acc x a h=>by
  unfold cellsFrom at h
  split at h
  ·rename_i hk
   rcases ih h with h |h
   ·rcases CR.mp h with e |h
    ·clear h;cases e;right;rw[C9.mp hk];exact Ds
    ·exact .inl h
   ·exact .inr (Dm _ h)
  ·rcases ih h with h |h
   ·exact .inl h
   ·exact .inr (Dm _ h)
theorem qV{np:Nat}{ps:List Str}(h:lQ np nv vis ps nk=true):vL np nv vis ps nk:=by
 simp only[lQ,Bool.and_eq_true,C3,C9] at h;obtain⟨⟨⟨⟨⟨⟨h1,h2⟩,h3⟩,h4⟩,h5⟩,h6⟩,h7⟩:=h;refine⟨h1,h2,h3,h4,λi x hx=>?_,λi x hx=>?_,λx hx=>?_⟩
 ·have hi:=(List.getElem?_eq_some_iff.mp hx).1;have:(i,x)∈(CL np).zip ps:=by
   refine DT (i:=i) ?_;rw[KZ];exact⟨by rw[EL (amk h1 hi)],hx⟩
  exact Ic (h5▸this)
 ·have:=CV.mp h6 _ hx
  simpa only[Bool.and_eq_true,C3,Ez,C9] using this
 ·have:=CV.mp h7 _ (mem_of_lookup hx);simp at this
section
variable {c:tG}
noncomputable def tm.call(U:tm)(h:CF)(L:Cz)(cs:List (Str×Cz)):tm:=λb p=>U b p\/(h.get? b=some p/\(b=L\/∃x,cs.lookup x=some b))
theorem abK{a:Cz}{np:Nat}{ps:List Str}{td:CC}(I:Inv c.prog c.w B c.U μ H s.heap)(F:vL np nv vis ps fd.scope.names)(hk:fd.scope.kind=.function)
  (hv:tD B μ vs tf) (hl:vs.length=np)
  (X:InCallC s s.heap.objs.size (bindL (λx=>fd.scope.names.lookup x) (ps.zip tf) λZ=>none) (cellsFrom (s.heap.objs.size+1) fd.scope.names []) (bindC (λx=>fd.scope.names.lookup x) (ps.zip tf) λZ=>none) td):
  ∃tj uy,td={s with heap:=tj,toks:=uy}/\Off true c.U (CU fd s.heap.objs.size a)/\FS true c.prog c.w c.U (CU fd s.heap.objs.size a) vis (vs++CK (nv-np) .undef) B μ H (c.U.call tj s.heap.objs.size (cellsFrom (s.heap.objs.size+1) fd.scope.names [])) tj:=by
 obtain⟨tj,uy,rfl,yn⟩:=(X.done);have vT:tf.length=np:=by rw[hv.length,hl]
 have new:∀b,s.heap.objs.size<=b->B.get? b=none/\b∉μ/\∀p,¬c.U b p:=λb hb=>by
  refine⟨?_,λhm=>CS _ (Nat.lt_of_lt_of_le (I.lt hm) hb),λp hu=>CS _ (Nat.lt_of_lt_of_le (I.zI hu) hb)⟩
  cases q:B.get? b with
  |none=>rfl
  |some o=>exact CI (Nat.lt_of_lt_of_le (Db (I.base _ _ q)) hb) (CS _)
 have above:∀x b,(cellsFrom (s.heap.objs.size+1) fd.scope.names []).lookup x=some b->s.heap.objs.size<b:=λx b e=>X.above x b (mem_of_lookup e);have atL:∀b,(b=s.heap.objs.size\/∃x,(cellsFrom (s.heap.objs.size+1) fd.scope.names []).lookup x=some b)->s.heap.objs.size<=b:=by
  rintro b (rfl |⟨x,e⟩)
  ·exact Nat.le_refl _
  ·exact CN (above x b e)
 have asi:∀x b,(cellsFrom (s.heap.objs.size+1) fd.scope.names []).lookup x=some b->(x,GB)∈fd.scope.names:=λx b e=>(agq (mem_of_lookup e)).resolve_left (by simp);refine(ax tj uy rfl ⟨λp=>(new _ (Nat.le_refl _)).2.2 p,λZ x b p e Z=>(new _ (CN (above x b e))).2.2 p⟩ ?_);obtain⟨oL,es,ep,eL,dL,kL,fL⟩:=id X.toInCall.ns;refine⟨⟨λb o e=>yn _ _ (I.base _ _ e),?_,I.nodup,I.fresh,I.len,λi b o x y=>?_⟩,?_,?_,λb p hu=>.inl hu⟩
 ·rintro b o (hu |⟨e,hb⟩)
  ·refine o_aaea (I.us b o hu) λg1 g2 sl g3 g4=>?_;exact(ft g1 g2 sl (yn _ _ g3) g4)
  ·obtain⟨n1,n2,_⟩:=new b (atL b hb);exact(ft n1 n2 o.slots e (λZ=>rfl))
 ·obtain⟨ob,g1,g2⟩:=I.objs i b o x y;exact(ae ob (yn _ _ g1) g2)
 ·intro i x v hm hr zd;obtain⟨hi,hkd⟩:=F.kind i x hm;have AW:i<vs.length:=by
   by_cases q:i<vs.length
   ·exact q
   ·rw[FU (Dj q),HZ] at hr
    split at hr
    ·cases hr;exact CI rfl zd
    ·cases hr
  rw[D6 AW] at hr;have AX:∃y,ps[i]?=some y:=⟨ps[i]'(by rw[F.len];exact GF AW hl),List.getElem?_eq_getElem _⟩;obtain⟨y,hy⟩:=AX;obtain rfl:x=y:=(mC F.ok hm (F.par i y hy)).mp rfl;obtain⟨cv,g1,g2⟩:=hv.get hr;have xP:(x,cv)∈ps.zip tf:=DT (KZ.mpr ⟨hy,g1⟩);have uU:((ps.zip tf).map (·.1)).Nodup:=by rw[FY (by rw[F.len,vT];exact Nat.le_refl _)];exact F.nodup
  refine(ae cv g2.xk ?_);rcases hkd with hl |hl
  ·refine .inl (rb hl oL (.inr ⟨eL,.inl rfl⟩) es ep dL (bE kL ?_));rw[fL];exact(mW (m':=λZ=>none) uU xP).1 hl
  ·obtain⟨b,hb⟩:=FL.mp (mZ (.inr (mem_of_lookup hl)));obtain⟨ob,e1,e2⟩:=X.cell x b hb;refine .inr (eH (.inl hl) b ob hb (.inr ⟨e1,.inr ⟨x,hb⟩⟩) ?_ (CW (above x b hb)));rw[e2];exact CH Data.cell ((mW (m:=λZ=>none) uU xP).2 (λq=>by rw[hl] at q;cases q))
 ·refine⟨(bZ oL es ep (.inr ⟨eL,.inl rfl⟩) dL kL),?_,λZ x b e Z=>?_,λZ x y b e1 e2=>name_of_addr X.apart (mem_of_lookup e1) (mem_of_lookup e2),λZ x b e=>CW (above x b e)⟩
  ·rintro b hb p q hp hq;have wY:s.heap.objs.size<=b:=by
    rcases hb with rfl |⟨_,x,e,_⟩
    ·exact Nat.le_refl _
    ·exact CN (above x b e)
   have hn:=(new b wY).2.2;rcases hp with hp |⟨hp,_⟩
   ·exact CI hp (hn p)
   ·rcases hq with hq |⟨hq,_⟩
    ·exact CI hq (hn q)
    ·rw[hp] at hq;cases hq;rfl
  ·obtain⟨ob,e1,e2⟩:=X.cell x b e;exact(bR ob _ (.inr ⟨e1,.inr ⟨x,e⟩⟩) e2)
theorem ai7{e:Cz}{Q:Unit->CC->Prop}(xz:A.frames=some (env::outer))(hf:env.frame=some L)(I:Inv c.prog c.w B U' μ H s.heap)
  (X:hJ U' (env::outer) k B μ s.heap e) (sub:∀b p,c.U b p->U' b p) (h:∀h',Inv c.prog c.w B c.U μ H h'->hJ c.U outer k B μ h' e->Q () {s with heap:=h'}):CB (CA c.prog c.w) A (leaving env (.ref e)) Q E s:=by
 unfold leaving;refine wpAny_bind (nY (c:={c with fs:=env::outer}) xz rfl hf I X λh1 I1 X1=>?_);(revert X1;refine r_eaaaaa λbase b1 b2 b3 b4 b5=>r_aeeeee λb6 oe vs T oT ts=>r_aaaaaa λg1 g2 g3 g4 g5 g6=>r_aaa λg7 g8 g9 yC=>?_);have t6:3<ts.size:=(Gj.mp yC).1;have other:∀b,b≠T->(h1.update T (FJ (·.setIfInBounds 3 Dh))).get? b=h1.get? b:=λb hb=>Ed _ _ (Dn hb);have uC:∀b o,h1.get? b=some o->(∀vs,o.data≠.fields vs)->b≠T:=λb o hb wu q=>by rw[q,g8] at hb;injection hb with hb;subst hb;exact wu ts g9
 have hB:∀b o,base.get? b=some o->b≠T:=λb o e q=>by rw[q,g6] at e;cases e
 have st:base.StaysIn (h1.update T (FJ (·.setIfInBounds 3 Dh))):=λb o e=>(other b (hB b o e)).trans (b4 b o e);unfold setFlight;refine wpAny_bind (EI g1 g3 g5 ?_);rw[CG (show(Di T !=Dh)=true from by simp)];refine Gi g8 g9 t6 (h _ ((I1.slots b1 b2 b3 st λb o e hn=>⟨o.slots,(other b (uC b o e hn)).trans e⟩).less sub) (gb base b1 (λa ha o e=>?_) (λa o hu hx=>b3 a o (sub a o hu) hx) st b5 (bE ((b6.of_keeps λb o e hn=>(ae o ((other b (uC b o e hn)).trans e) rfl)).2.2) ?_)))
 ·obtain⟨i,hi⟩:=Ea.mp ha;have hl:i<H.length:=I1.len▸(List.getElem?_eq_some_iff.mp hi).1;obtain⟨ob,wJ,_⟩:=I1.objs i a H[i] hi (List.getElem?_eq_getElem hl);have q:=b2 a ha ob wJ;have q2:=(st _ _ q).symm.trans e;clear wJ;cases q2;exact q
 ·exact(dS oe vs ((other e (Dn g7)).trans g1) g2 g3 (.inr (ef T _ _ (.none) g5 g6 (gM g7 (Em _ g8 (Hn (Gc g9 _))) (Gc g9 _) (by simp[t6]) (.inl rfl)))) g4)
theorem aaX{a:Cz}{np:Nat}{ps:List Str}(D:vg B a fd body ps)(F:vL np nv vis ps fd.scope.names)
  (I:Inv c.prog c.w B c.U μ H s.heap) (wG:B.NoLimit) (hv:tD B μ vs tf) (hl:vs.length=np) (xa:A.depth<recursionLimit)
  (h:∀tj uy,Off true c.U (CU fd s.heap.objs.size a)->FS true c.prog c.w c.U (CU fd s.heap.objs.size a) vis (vs++CK (nv-np) .undef) B μ H (c.U.call tj s.heap.objs.size (cellsFrom (s.heap.objs.size+1) fd.scope.names [])) tj->
   CB (CA c.prog c.w) (A.deeper (CU fd s.heap.objs.size a)) (Dw body (CU fd s.heap.objs.size a)) (λf s'=>Q (match f with | .ret v=>v |_=>.none) s')
    (λe s'=>CB (CA c.prog c.w) (A.deeper (CU fd s.heap.objs.size a)) (leaving (CU fd s.heap.objs.size a) e) (λZ wo=>E e wo) (λe' wo=>E e' wo) s') {s with heap:=tj,toks:=uy})
  (ux:fd.closure=[]):CB (CA c.prog c.w) A (call (.ref a) tf) Q E s:=by
 obtain⟨o,ho,hd⟩:=(D.ob);have vT:ps.length=tf.length:=by rw[hv.length,hl,F.len]
 refine FP (JI xa (I.base _ _ ho) hd (wG.keeps λb o e=>I.base b o e) (D.code.keeps λb o e=>I.base b o e) D.body (lB D.args D.dflt F.nodup vT) ux (λx hx=>?_) (λtd X=>?_) D.co D.gen D.kind)
 ·obtain⟨n,v⟩:=x;obtain⟨i,hi⟩:=Ea.mp (Fy hx).1;rcases(F.kind i n (F.par i n hi)).2 with q |q
  ·exact .inl q
  ·exact .inr ⟨q,mZ (.inr (mem_of_lookup q))⟩
 ·(obtain⟨tj,uy,zq2,h1,h2⟩:=abK (a:=a) I F D.kind hv hl X;clear X;subst zq2);exact h tj uy h1 h2
end
section
open Builtin Builtin.ObjectAttr
section
variable {x:Cz}{cd:ClassData}{name:Str}{v:Cy}{mA:Str->Option Cy}
theorem an1{d:Drawn}{t:Nat}{R:Result->CC->Prop}{tk:Tok}{ns:List Str}(X:K.In h)(S:Stores K C name cd)(I:h.Inst x C mA)(hw:JD mA ns)(t6:ns.length<=1000)
  (hq:∀h' yZ,h'.Inst x C (λy=>if y=name then some v else mA y)->
   (∀b o,b≠x->(∀uo dx,h.get? x=some uo->uo.dict=some dx->b≠dx)->h.get? b=some o->h'.get? b=some o)->
   (∀uo,h.get? x=some uo->∃vE,h'.get? x=some vE/\vE.cls=uo.cls/\vE.data=uo.data/\vE.slots=uo.slots/\∀dx,uo.dict=some dx->vE.dict=some dx)->R (.ok (.ret .none)) ⟨h',g,d,yZ,os⟩):
  codeAny (CA prog w) A (.call (.builtin "object.__setattr__") ⟨[.ref x,.str name tk,v],[]⟩) R ⟨h,g,d,t,os⟩:=by
 obtain⟨o,hx,hc,As,hd⟩:=I;have SF:=Mc;have T:Looks (CA prog w) h (typeOf (.ref x)) (.ref C):=by have:Looks (CA prog w) h (typeOf (.ref x)) o.cls:=(Jm hx).andThen .now;rw[hc] at this;exact this
 have sub:Looks (CA prog w) h (isInstance (.ref x) (.type "object")) true:=T.andThen (looks_mroIn X (by unfold mroIn;rw[S.cls,LZ,CJ (by rw[S.ne];decide),S.obj]))
 have hm:Looks (CA prog w) h (mroOf (.ref C)) cd.mro:=(looks_clsIn X S.cls).andThen .now
 refine Mx SF.slot.plain SF.entry (@check_slot (CA prog w) _ _ ⟨h,g,d,t,os⟩ "object.__setattr__" "object" "__setattr__" (.ref x) [.str name tk,v] [] _ SF.kind SF.split sub (SF.args (.ref x) (.str name tk) v) ?_)
 obtain⟨attr,ha,hr⟩:=FK.mp S.take;have L3:Looks (CA prog w) h (storeTaker? attr) none:=by
  cases attr with
  |none=>exact .now
  |some a=>
   obtain⟨b,hb,wY⟩:=Ek.mp hr;refine(looks_takesIn X hb).andThen ?_
   cases b with
   |false=>exact .now
   |true=>cases wY
 rw[osa_eq,refuse_eq];refine wpAny_bind (wpAny_bind (T.here (wpAny_bind (hm.here ?_))));rw[S.pass];refine wpAny_pure (wpAny_bind (T.here (wpAny_bind ((HB X ha).here (wpAny_bind (L3.here ?_))))));show CB _ _ (storeInOwnDict (.ref x) (.ref C) (.str name tk) name v _) _ _ _;refine wpAny_bind (wpAny_pure (wpAny_bind (wpAny_bind (wpAny_loadPart hx ?_))));rw[hc];refine wpAny_bind ((looks_clsIn X S.cls).here ?_);rw[S.dict];rcases hd with⟨BN,hmA⟩ |⟨dx,BO,um,yp⟩
 ·rw[BN]
  have yv:(h.push {cls:=.type "dict",data:=.dict #[]}).get? x=some o:=C6 _ hx
  have xS:x≠h.objs.size:=CP (Db hx);have asw:CB (CA prog w) A.in1 (do
    let d<-alloc {cls:=.type "dict",data:=.dict #[]}
    update x λo=>{o with dict:=some d}
    dictMade o.cls x d) (λr s'=>CB (CA prog w) A.in1 (match r with
      |some d=>storeInDict d (.str name tk) name v
      |none=>noDictFor (.ref x) (.ref C) name attr.isSome) (λfin s'=>match fin with | .done f=>R (.ok f) s' | .again c'=>c'.quiet=true/\codeAny (CA prog w) A c' R s') (λe s'=>R (.error e) s') s') (λe s'=>R (.error e) s') ⟨h,g,d,t,os⟩:=by
   refine wpAny_bind (wpAny_alloc' ?_);refine wpAny_bind (wpAny_update' yv ?_);rw[hc];refine wpAny_pure ?_
   have hgd:((h.push {cls:=.type "dict",data:=.dict #[]}).update x λo=>{cls:=o.cls,dict:=some h.objs.size,data:=o.data,slots:=o.slots}).get? h.objs.size
     =some {cls:=.type "dict",data:=.dict #[]}:=
    (Kn _ _ _ _ xS.symm).trans (IN rfl rfl)
   have uU:((h.push {cls:=.type "dict",data:=.dict #[]}).update x λo=>{cls:=o.cls,dict:=some h.objs.size,data:=o.data,slots:=o.slots}).Ns h.objs.size (λZ=>none):=(ce _ #[] _ hgd rfl (λe he=>CI he (by simp)) (λZ=>rfl))
   unfold storeInDict newKeyGuard;refine wpAny_bind (wpAny_pure (wpAny_bind (wpAny_nsSet1 (Kl uU) λh' zE hs=>?_)));obtain⟨oD,esD,epD,B0,BL,BJ⟩:=zE.count (Hr name v Hs);refine wpAny_bind (JR B0 (by rw[BL];exact MD (Nat.le_trans BJ (by rw[Dc,K5,sizeLine_eq];exact EM (0+1) 16777216))) ?_);refine wpAny_pure ?_;have zU:h'.get? x=some {cls:=o.cls,dict:=some h.objs.size,data:=o.data,slots:=o.slots}:= ?_;refine hq h' _ (cY ({cls:=o.cls,dict:=some h.objs.size,data:=o.data,slots:=o.slots}) zU hc As (.inr (aI h.objs.size rfl xS.symm ?_))) (λb ob hbx Z hb=>?_)
    (λuo h₀=>by obtain rfl:o=uo:=C0 (hx.symm.trans h₀);exact(kg _ zU rfl rfl rfl (λdx e=>by rw[BN] at e;cases e)))
   ·(revert zE;refine r_eeeaaa λo' es ep e1 e2 e3=>r_a λeu e4=>?_);exact(ce o' es ep e1 e2 e3 (bE eu (λy=>by rw[e4 y];by_cases hy:y=name<;>simp[hy,hmA])))
   ·exact(hs.2 b (CP (Db hb))).trans ((Kn _ _ _ _ hbx).trans (C6 _ hb))
   ·refine(hs.2 x xS).trans (Em _ yv ?_);have xz:=(CF.get?_some_iff.mp hx).2;obtain⟨oc,od,odt,osl⟩:=o;clear hx hc As BN yv;cases odt<;>first |rfl |exact xz
  dsimp only;rw[CJ (by simp[typeHasDict])];rw[hc] at asw
  cases y9:o.data with
  |cls c=>exact CI y9 (As c)
  |_=>exact asw
 ·rw[BO];refine wpAny_pure ?_;show CB _ _ (storeInDict dx (.str name tk) name v) _ _ _;unfold storeInDict newKeyGuard;refine wpAny_bind (wpAny_pure (wpAny_bind (wpAny_nsSet1 yp λh' zE hs=>?_)));obtain⟨oD,esD,epD,B0,BL,BJ⟩:=zE.count (Hr name v hw);refine wpAny_bind (JR B0 (by rw[BL];exact MD (Nat.le_trans BJ (by rw[Dc,sizeLine_eq];exact amm t6))) ?_);refine wpAny_pure ?_;refine hq h' _ (cY o ((hs.2 x um.symm).trans hx) hc As (.inr (aI dx BO um zE))) (λb ob Z hbd hb=>?_)
   (λuo h₀=>(kg uo ((hs.2 x um.symm).trans h₀) rfl rfl rfl (λZ e=>e)))
  exact(hs.2 b (hbd o dx hx BO)).trans hb
theorem aeo{Q:Unit->CC->Prop}{ns:List Str}(X:K.In s.heap)(S:Stores K C name cd)(I:s.heap.Inst x C mA)(hw:JD mA ns)(t6:ns.length<=1000)
  (hq:∀h' yZ,h'.Inst x C (λy=>if y=name then some v else mA y)->
   (∀b o,b≠x->(∀uo dx,s.heap.get? x=some uo->uo.dict=some dx->b≠dx)->s.heap.get? b=some o->h'.get? b=some o)->
   (∀uo,s.heap.get? x=some uo->∃vE,h'.get? x=some vE/\vE.cls=uo.cls/\vE.data=uo.data/\vE.slots=uo.slots/\∀dx,uo.dict=some dx->vE.dict=some dx)->Q () {s with heap:=h',toks:=yZ}):
  CB (CA prog w) A (setAttr (.ref x) name v) Q E s:=by
 obtain⟨h,g,d,t,os⟩:=s;have I':=I;obtain⟨o,hx,hc,_⟩:=I;have T:Looks (CA prog w) h (typeOf (.ref x)) (.ref C):=by have:Looks (CA prog w) h (typeOf (.ref x)) o.cls:=(Jm hx).andThen .now;rw[hc] at this;exact this
 refine wpAny_bind (wpAny_mkText (wpAny_bind (wpAny_bind (wpAny_bind (T _ _ _ _ (λZ Z e=>e) (HB X S.set _ _ _ _ (λZ Z e=>e) (Dv ?_)))))));rw[Mc.slot.bind];refine wpAny_bind (wpAny_pure (wpAny_bind (FP (an1 X S I' hw t6 λh' yZ a b c=>?_))));exact wpAny_pure (wpAny_pure (hq h' yZ a b c))
end
end
theorem aiG{b:List Stmt}(h:re k b=true):∃b0 b1 b2,b=[b0,b1,b2]/\((iR (bt k 0) b0&&iR (bt k 1) b1)&&iR (bt k 2) b2)=true:=by
 match b,h with
 |[b0,b1,b2],h=>exact gc b0 b1 b2 rfl h
theorem nI{n:Str}{s:Stmt}(h:iR n s=true):∃p1 p2 p3 p4,s=.Assign [.Attribute (.Name "self" p1) n p2] (.Name n p3) p4:=by have h1:=aa (aa h).1;have h2:=aa (aa h).2;have e:=abF h1.1 h1.2;rw[apr h2.1,eM h2.2] at e;exact(iP _ _ _ _ e)
theorem ajg{o:Obj}{es:Array DictEntry}{ep:Nat}{x:Str}(hd:o.data=.dict es ep)(hk:StrKeys es):lookIn x o=some (nsFind es x):=by
 unfold lookIn;rw[hd];dsimp only;unfold nsFind findBy;rw[<-Array.find?_toList]
 cases q:es.toList.find? (·.key.isStr x) with
 |some e=>rfl
 |none=>
  dsimp only;rw[CJ]
  ·rfl
  ·rw[J5,HU];intro e he;obtain⟨n,t,hn⟩:=hk e (J0.mp he);unfold DictEntry.refKey;rw[hn];exact HJ
structure x6(h:CF)(x dx C:Cz)(mA:Str->Option Cy):Prop where
 inst:h.Inst x C mA
 dict:∀o,h.get? x=some o->o.dict=some dx/\notCls o=true
section
variable {x dx:Cz}{m mA:Str->Option Cy}
theorem rf{n:Str}{v:Cy}{cd:ClassData}{p1 p2 p3 p4:Pos}{ns:List Str}{Q:Flow->CC->Prop}(X:K.In s.heap)(S:Stores K C n cd)(Bn:x6 s.heap x dx C mA)(hw:JD mA ns)(t6:ns.length<=1000)
  (hk:env.scope.kind=.function) (hn:s.heap.Ns env.locals m) (k1:env.kindOf "self"=some .local) (k2:env.kindOf n=some .local) (hs:m "self"=some (.ref x)) (hv:m n=some v) (hL:env.locals≠x) (zt:env.locals≠dx)
  (uU:(n==("__debug__":Str))=false)
  (h:∀h' yZ,x6 h' x dx C (λy=>if y=n then some v else mA y)->(∀b o,b≠x->b≠dx->s.heap.get? b=some o->h'.get? b=some o)->h'.Ns env.locals m->Q .next {s with heap:=h',toks:=yZ}):
  CB (CA prog w) A (EP (.Assign [.Attribute (.Name "self" p1) n p2] (.Name n p3) p4) env) Q E s:=by
 refine ME (Ge (Gh hk k2 hn hv (Ge (Gh hk k1 hn hs (aeo X S Bn.inst hw t6 λh' yZ I' yn wx=>?_)) (by decide))) uU);obtain⟨o,hx,_⟩:=id Bn.inst;have asO:∀b ob,b≠x->b≠dx->s.heap.get? b=some ob->h'.get? b=some ob:=λb ob h1 h2 e=>yn b ob h1 (λuo d' e1 e2=>by rw[(Bn.dict uo e1).1] at e2;cases e2;exact h2) e
 refine h h' yZ ⟨I',λo' e'=>?_⟩ asO ?_
 ·obtain⟨vE,e1,e2,e3,e4,e5⟩:=wx o hx;rw[e1] at e';clear e1 e2 e4;cases e';obtain⟨q1,q2⟩:=Bn.dict o hx;refine⟨e5 dx q1,?_⟩;unfold notCls at q2⊢;rw[e3];exact q2
 ·obtain⟨oL,es,ep,e1,r⟩:=hn;exact(gc oL es ep (asO _ _ hL zt e1) r)
theorem x6.ar6{x dx:Cz}(hk:k<=1)(b:x6 h x dx (bO k) (λy=>if y=bt k 2 then some c2 else if y=bt k 1 then some c1 else if y=bt k 0 then some c0 else none)):
  ∃ox od,h.get? x=some ox/\h.get? dx=some od/\ox.cls=.ref (bO k)/\ox.dict=some dx/\notCls ox=true/\Fits od k c0 c1 c2:=by
 obtain⟨ox,hx,hc,As,hd⟩:=(b.inst);obtain⟨q1,q2⟩:=b.dict ox hx;rcases hd with⟨hd,_⟩ |⟨d',hd,_,od,es,ep,e1,e2,e3,_,e4⟩
 ·rw[q1] at hd;cases hd
 ·rw[q1] at hd;cases hd;refine(dS ox od hx e1 hc q1 (bE q2 ?_));have L:∀y,lookIn y od=some (if y=bt k 2 then some c2 else if y=bt k 1 then some c1 else if y=bt k 0 then some c0 else none):=λy=>by rw[ajg e2 e3,e4]
  have wS:k=0\/k=1:=by exact Lz.mp hk
  constructor<;>(rw[L];clear hk b hc e4 L;rcases wS with rfl |rfl<;>rfl)
theorem ahx(hk:k<=1):bt k 0≠bt k 1/\bt k 0≠bt k 2/\bt k 1≠bt k 2/\("self":Str)≠bt k 0/\("self":Str)≠bt k 1/\("self":Str)≠bt k 2/\∀i,(bt k i==("__debug__":Str))=false:=by
 have wS:k=0\/k=1:=by exact Lz.mp hk
 have dbg:∀i,(bt k i==("__debug__":Str))=false:=λi=>by clear hk;rcases wS with rfl |rfl<;>(rcases i with _ |_ |i<;>first |decide |rfl)
 clear hk;rcases wS with rfl |rfl<;>exact(dv (by decide) (by decide) (by decide) (by decide) (by decide) (by decide) dbg)
theorem ajX{c:tG}(hk:k<=1)(hd:A.depth<500)
  (wG:B.NoLimit) (XB:K.In B) (N:uJ K B k) (I:Inv c.prog c.w B c.U μ H s.heap) (hv:tD B μ vs tf) (hl:vs.length=3) (P:s6 c s B μ VR (.ok (.inst k vs) H:R AV) Q E):
  CB (CA c.prog c.w) A (call (.ref (bO k)) tf) Q E s:=by
 obtain⟨v0,v1,v2,rfl⟩:∃v0 v1 v2,vs=[v0,v1,v2]:=by
  match vs,hl with
  |[a,b,c],_=>exact(nG a b c rfl)
 obtain⟨c0,c1,c2,rfl,w0,w1,w2⟩:∃c0 c1 c2,tf=[c0,c1,c2]/\VR B μ v0 c0/\VR B μ v1 c1/\VR B μ v2 c2:=by refine o_eeaa hv.c λc0 r e a hv=>o_eeaa hv.o2 λc1 c2 e' b d=>?_;exact(ce c0 c1 c2 (by rw[e,e']) a b d)
 obtain⟨h,g,d,t,os⟩:=s;have X:K.In h:=XB.keeps λb o e=>I.base b o e;obtain⟨fd,body,FD,ux,zz,uG⟩:=(N.fd);obtain⟨a1,a2,a3,a4,a5,a6,BM⟩:=ahx hk;refine FP (make_core (makes_of X N.makes) (HB X N.init) (λself=>bind_fn X self N.fn) (.inl rfl) ?_);refine cX (h.objs.size+1) λx hx=>?_;refine cX ((h.push emptyDict).push (instObj (bO k) h.objs.size)) λh1 hh=>?_;have e1:h1.get? x=some (instObj (bO k) h.objs.size):=by subst hh hx;heap_get
 have e2:h1.get? h.objs.size=some emptyDict:=by clear e1;subst hh;exact C6 _ (IN rfl rfl)
 have t6:h1.objs.size=x+1:=by clear e1 e2;subst hh hx;simp only[HN]
 have xf:∀b o,h.get? b=some o->h1.get? b=some o:=λb o e=>by clear e1 e2 t6;subst hh;exact C6 _ (C6 _ e)
 have uU:(dM k).Nodup:=by simp only[dM,F8,CR,DE,DG,Fq,Ie,and_true,not_false_eq_true];exact⟨⟨a4,a5,a6⟩,⟨a1,a2⟩,a3⟩
 obtain⟨o,ho,y9⟩:=(FD.ob);refine JI (by show A.depth+1<1000;exact Nat.lt_of_le_of_lt hd (by decide)) (xf _ _ (I.base _ _ ho)) y9 (wG.keeps λb o e=>xf _ _ (I.base b o e)) (FD.code.keeps λb o e=>xf _ _ (I.base b o e)) FD.body
  (lB FD.args FD.dflt uU rfl) ux (λy hy=>.inl (uG _ (Fy hy).1)) (λtd X1=>?_) FD.co FD.gen FD.kind
 obtain⟨h2,t2,rfl,vC⟩:=(X1.done);have hm:∀y v,(y,v)∈(dM k).zip [Di x,c0,c1,c2]->bindL (CU fd h1.objs.size (ju k)).kindOf ((dM k).zip [Di x,c0,c1,c2]) (λZ=>none) y=some v:=λy v hy=>(mW (m':=λZ=>none) (by rw[FY (by simp[dM])];exact uU) hy).1 (uG _ (Fy (b:=v) hy).1)
 have Ay:=X1.toInCall.ns;have BC:h1.objs.size≠x:=by exact amn t6
 have zt:h1.objs.size≠h.objs.size:=by exact amo hx t6
 have xS:h.objs.size<x:=by exact amq hx
 have kS:fd.scope.names.lookup ("self":Str)=some .local:=uG _ (by simp[dM])
 have k0:fd.scope.names.lookup (bt k 0)=some .local:=uG _ (by simp[dM]);have k1:fd.scope.names.lookup (bt k 1)=some .local:=uG _ (by simp[dM]);have k2:fd.scope.names.lookup (bt k 2)=some .local:=uG _ (by simp[dM])
 have mS:=hm "self" (.ref x) (by simp[dM])
 have m0:=hm (bt k 0) c0 (by simp[dM]);have m1:=hm (bt k 1) c1 (by simp[dM]);have m2:=hm (bt k 2) c2 (by simp[dM]);refine aik λA' Q' E' kQ=>?_;obtain⟨b0,b1,b2,e,zz⟩:=aiG zz;subst e
 ·obtain⟨i0,i1⟩:=aa (aa zz).1;have i2:=(aa zz).2;(obtain⟨p1,p2,p3,p4,zq4⟩:=nI i0;clear i0;subst zq4);(obtain⟨q1,q2,q3,q4,zq4⟩:=nI i1;clear i1;subst zq4);(obtain⟨r1,r2,r3,r4,zq4⟩:=nI i2;clear i2;subst zq4);obtain⟨cd0,S0⟩:=N.st 0 (by decide);obtain⟨cd1,S1⟩:=N.st 1 (by decide);obtain⟨cd2,S2⟩:=N.st 2 (by decide);have atc:x6 h2 x h.objs.size (bO k) (λZ=>none):=by
   refine⟨(cY _ (vC _ _ e1) rfl (λc=>by simp) (.inr (aI h.objs.size rfl (CP xS) (Kl (ce _ #[] _ (vC _ _ e2) rfl (λe he=>CI he (by simp)) (λZ=>rfl)))))),λo e=>?_⟩;rw[vC _ _ e1] at e;cases e;exact⟨rfl,rfl⟩
  have X2:K.In h2:=X.keeps λb o e=>vC _ _ (xf _ _ e);have old:∀b o,K.lookup b=some o->b≠x/\b≠h.objs.size:=λb o e=>by have:=Db (X _ _ e);exact⟨CP (CM this xS),CP this⟩
  refine Fs (rf X2 S0 atc Hs (by decide) FD.kind Ay kS k0 mS m0 BC zt (BM 0) λh3 t3 asd xg A8=>?_);have X3:K.In h3:=λb o e=>xg _ _ (old _ _ e).1 (old _ _ e).2 (X2 _ _ e);refine Fs (rf (s:=⟨h3,g,d,t3,os⟩) X3 S1 asd (Hr _ _ Hs) (by simp) FD.kind A8 kS k1 mS m1 BC zt (BM 1) λh4 t4 ase ar4 ns4=>?_);have X4:K.In h4:=λb o e=>ar4 _ _ (old _ _ e).1 (old _ _ e).2 (X3 _ _ e);refine Fs (rf (s:=⟨h4,g,d,t4,os⟩) X4 S2 ase (Hr _ _ (Hr _ _ Hs)) (by simp) FD.kind ns4 kS k2 mS m2 BC zt (BM 2) λh5 t5 asf yx ns5=>?_);refine Fe (kQ _ _ ⟨rfl,?_⟩);have asZ:∀b o,h.get? b=some o->h5.get? b=some o:=λb o e=>by have:=Db e;have n1:=CP (CM this xS);have n2:=CP this;exact yx _ _ n1 n2 (ar4 _ _ n1 n2 (xg _ _ n1 n2 (vC _ _ (xf _ _ e))))
  refine o_eeaaaa (asf.ar6 hk) λox od f1 f2 f3 f4=>r_a λf5 f6=>?_;have J:Inv c.prog c.w B c.U μ H h5:=I.ext asZ;have nM:∀b,h.objs.size<=b->b∉μ:=λb hb hm=>CS _ (Nat.lt_of_lt_of_le (I.lt hm) hb);have nU:∀b,h.objs.size<=b->∀p,¬c.U b p:=λb hb p hu=>CS _ (Nat.lt_of_lt_of_le (I.zI hu) hb);obtain⟨B1,g1,g2,J1⟩:=J.vJ f1 (nM x (CN xS)) (nU x (CN xS));obtain⟨B2,g3,g4,J2⟩:=J1.vJ f2 (nM _ (Nat.le_refl _)) (nU _ (Nat.le_refl _));have st:B.StaysIn B2:=λb o e=>g3 _ _ (g1 _ _ e);exact P B2 μ h5 t5 (.ref x) st (Pre.refl _) J2 (.inst k x v0 v1 v2 c0 c1 c2 ⟨(ce ox _ od (g3 _ _ g2) f3 f4 (bT f5 g4 f6))⟩ (w0.mono st (Pre.refl _)) (w1.mono st (Pre.refl _)) (w2.mono st (Pre.refl _)))
end
section
variable {d:Drawn}{t:Nat}
variable {nm q:Str}{N:Cz}{bs bm:List Cy}{xO:Bool}{sn:List Str}{sub:List Cy}{ab:Bool}{col:Option Bool}{dd:Option Cz}{k0 k1 k2 k3 k5:Option Cy}
theorem aq5{Q:Unit->CC->Prop}(hb:bm.contains (.type "Exception")=true)(hC:h.get? C=some (excClassObj nm q C N bs bm xO sn sub ab col dd k0 k1 k2 k3 k5 "Exception.__new__"))
  (hq:Q () ⟨h,g,d,t,os⟩):CB M A (Fc "Exception.__new__" ⟨.ref C::rest,[]⟩) Q E ⟨h,g,d,t,os⟩:=by
 have F:=Hp
 have asG:(Di C::bm).contains (.type "Exception")=true:=by rw[Fx,hb,FQ]
 have atY:=F.noStar;simp only[Fc,F.newKind,F.newSplit,F.newRow]
 repeat (first |refine EQ hC ?_ |(refine Gf hC ?_;rw[asG]) |refine wpAny_staticBase_exc hC ?_ |refine MR hC ?_ |simp -iota only[bne_self_eq_false,Fg,Fd] |wp_step)
 exact hq
theorem ara{R:Result->CC->Prop}(hb:bm.contains (.type "Exception")=true)(ha:bm.contains (.type "AttributeError")=false)(hn:bm.contains (.type "NameError")=false)
  (hC:h.get? C=some (excClassObj nm q C N bs bm xO sn sub ab col dd k0 k1 k2 k3 k5 "Exception.__new__"))
  (hq:R (.ok (.ret (.ref (h.objs.size+1)))) ⟨(h.push {cls:=.type "tuple",data:=.seq rest.toArray}).push
   {cls:=.ref C,data:=.fields #[.ref h.objs.size,.none,.none,.none,.bool false,.none]},g,d,t,os⟩) (ar2:rest.length<=sizeLine):
  codeAny (CA prog w) A (.builtin "Exception.__new__" ⟨.ref C::rest,[]⟩) R ⟨h,g,d,t,os⟩:=by
 have F:=Hp;have ar1:=F.ends
 have zx:(Di C::bm).contains (.type "Exception")=true:=by rw[Fx,hb,FQ]
 have hcA:(Di C::bm).contains (.type "AttributeError")=false:=by rw[Fx,ha];rfl
 have hcN:(Di C::bm).contains (.type "NameError")=false:=by rw[Fx,hn];rfl
 refine codeAny_builtinAt F.entry ?_;unfold Builtin.«BaseException.__new__»;refine Mm ?_;show PySem.wpAt _ _ _ (stack>>=_) _ _ _;refine Mm (PySem.wpAt_stack λp below=>Mn ?_)
 wp_walk
 refine Mn ?_;rw[F.owner]
 repeat (first |with_reducible refine wpAny_madeHere_exc F.canon hC ?_ |with_reducible refine EQ hC ?_ |(with_reducible refine Gf hC ?_;first |rw(occs:=.all) [zx] |rw(occs:=.all) [hcA] |rw(occs:=.all) [hcN]) |wp_step)
 show R _ _;rw[HN];exact hq
theorem aq8{fI:Cz}(hb:bm.contains (.type "Exception")=true)(ha:bm.contains (.type "AttributeError")=false)(hn:bm.contains (.type "NameError")=false)
  (hC:h.get? C=some (excClassObj nm q C N bs bm xO sn sub ab col dd k0 k1 k2 k3 k5 "Exception.__new__")) (X:K.In h) (hi:findIn K (.ref C) "__init__"=some (some (.ref fI))) (hf:typeIn K (.ref fI)=some (.type "function")) (ar2:rest.length<=sizeLine)
  (hq:∀h' e,CF.MadeExcOf h h' e (.ref C) rest->
   CB (CA prog w) (A.under (.builtin "type.__call__" ⟨.ref C::rest,[]⟩)) (call (.ref fI) (.ref e::rest)) (λr s'=>r=.none/\Q (.ref e) s') E ⟨h',g,d,t,os⟩):
  CB (CA prog w) A (call (.ref C) rest) Q E ⟨h,g,d,t,os⟩:=by
 have f1:=tc_lookup;have f2:=tc_bind (.ref C)
 have hT:(⟨h,g,d,t,os⟩:CC).TypeIs (.ref C) "type":=(ae _ hC rfl)
 refine FP (Hz ?_);show CB _ _ (callAny (.ref C) _) _ _ _
 repeat (any_goals (first |assumption |with_reducible refine EQ hC ?_ |wp_step))
 refine⟨rfl,?_⟩;refine codeAny_call_builtin_at (II _ (by decide+kernel)) entry_typeCall (wpAny_check_type_call_sub hC ?_)
 repeat (first |with_reducible refine EQ hC ?_ |with_reducible refine MR hC ?_ |wp_step)
 refine codeAny_call_builtin_code (II _ Hp.quiet) (aq5 hb hC ?_);refine ara hb ha hn hC ?_ ar2;show CB _ _ _ _ _ _
 have keep:∀b o,h.get? b=some o->((h.push {cls:=.type "tuple",data:=.seq rest.toArray}).push {cls:=.ref C,data:=.fields #[.ref h.objs.size,.none,.none,.none,.bool false,.none]}).get? b=some o:=λb o e=>C6 _ (C6 _ e)
 have yP:((h.push {cls:=.type "tuple",data:=.seq rest.toArray}).push
   {cls:=.ref C,data:=.fields #[.ref h.objs.size,.none,.none,.none,.bool false,.none]}).get? (h.objs.size+1)=some
   {cls:=.ref C,data:=.fields #[.ref h.objs.size,.none,.none,.none,.bool false,.none]}:=by heap_get
 have BH:(Di C::bm).contains (.ref C)=true:=by simp
 have asy:=keep _ _ hC;have asb:=X.keeps keep;unfold isInstance
 repeat (first |with_reducible refine EQ yP ?_ |(refine Gf asy ?_;rw[BH]) |wp_step)
 show CB _ _ (typeLookup (.ref C) _) _ _ _;refine(HB asb hi).here ?_;refine Dv (wpAny_bind ((bind_fn asb _ hf).here (wpAny_bind (C1 (hq _ (h.objs.size+1) ⟨keep,IM (FF _),h.objs.size,yP,IM (Nat.le_refl _),?_⟩) (λr s' hr=>?_) λZ Z x=>x))))
 ·exact C6 _ (IN rfl rfl)
 ·obtain⟨rfl,hQ⟩:=hr
  wp_walk
  exact hQ
end
theorem aq3{b:List Stmt}(h:s5 b=true):∃p1 ap p2 p3 cp p4 p5 p6 p7 p8,b=[.Expr (.Call (.Attribute (.Name "Exception" p1) "__init__" ap) [.Name "self" p2,.Name "message" p3] [] cp) p4,.Assign [.Attribute (.Name "self" p5) "message" p6] (.Name "message" p7) p8]/\(ap.endLine==cp.line)=true:=by have h1:=aa (aa h).1;have h2:=aa h1.1;have h3:=aa h1.2;obtain⟨p5,p6,p7,p8,e2⟩:=nI (aa h).2;have e1:=(qF h3.1).trans (CH (λe=>Stmt.Expr e (ag (bL b)).p) (agl h3.2));exact(dT _ _ _ _ _ _ (nH p5 p6 p7 p8 ((na h2.1).trans ((CH (bL b::·) ((rW h2.2).trans (CH (λx=>[x]) e2))).trans (CH (·::_) e1))) ((aa h3.2).2)))
section
theorem ahv{Q:Cy×List Cy->CC->Prop}(h:Q (.builtin "Exception.__init__",[]) {s with toks:=s.toks+1}):CB (CA prog w) A (getMethod (.type "Exception") "__init__" pl) Q E s:=by
 have X:Frag.In [] s.heap:=λa o e=>by cases e
 have asX:opaqueClassAbove (.type "Exception")=pure none:=by unfold opaqueClassAbove;dsimp only;rw[show Manifest.isStub "Exception"=false by decide+kernel];rfl
 have ht:typeOf (.type "Exception")=pure (.type "type"):=by first |rfl |kernel_rfl
 have L0:Looks (CA prog w) s.heap (typeOf (.type "Exception")) (.type "type"):=Ij ht
 have hg:findIn [] (.type "type") "__getattribute__"=some (some (.builtin "type.__getattribute__")):=type_tga
 unfold getMethod specialOf;refine wpAny_bind (wpAny_bind (L0.here ((HB X hg).here ?_)));dsimp only;rw[CG canon_tga];refine wpAny_bind (C1 ?_ (λZ Z z=>wpAny_pure z) λZ Z z=>z)
 have LO:Looks (CA prog w) s.heap (opaqueClassAbove (.type "Exception")) none:=Ij asX
 refine cls_open (r:=.val (.builtin "Exception.__init__")) X LO L0 hg (looks_hook X (by rfl)) (by show subIn [] _ _=_;rfl) (by kernel_rfl) ?_
 exact wpAny_pure (by show CB _ _ (handedOut _) _ _ _;rw[handedOut_of (show handedIn (.builtin "Exception.__init__")=true by kernel_rfl)];exact wpAny_pure h)
variable {nm q:Str}{N e:Cz}{bs bm:List Cy}{xO:Bool}{sn:List Str}{sub:List Cy}{ab:Bool}{col:Option Bool}{dd:Option Cz}{k0 k1 k2 k3 k5:Option Cy}{newId:String}
theorem aq6{d:Drawn}{t:Nat}{Q:Unit->CC->Prop}(hb:bm.contains (.type "Exception")=true)
  (hC:h.get? C=some (excClassObj nm q C N bs bm xO sn sub ab col dd k0 k1 k2 k3 k5 newId)) (he:h.get? e=some oe) (atj:oe.cls=.ref C) (hq:Q () ⟨h,g,d,t,os⟩):
  CB M A (Fc "Exception.__init__" ⟨.ref e::rest,[]⟩) Q E ⟨h,g,d,t,os⟩:=by
 have F:=Hp
 have zx:(Di C::bm).contains (.type "Exception")=true:=by rw[Fx,hb,FQ]
 have atB:=F.noStar;simp only[Fc,F.initKind,F.initSplit,F.initRow]
 repeat (first |(with_reducible refine EQ he ?_;rw[atj]) |with_reducible refine EQ hC ?_ |(with_reducible refine Gf hC ?_;rw[zx]) |wp_step)
 refine wpAny_onRaise ?_
 rw[show ∀(a b:String)(n:Nat),Bind.check ⟨.positional,"*","Exception",.self,[⟨"args",.varPos,false⟩]⟩ a b n (Ib (λx=>x.fst) ({pos:=Di e::rest}:Args).kw)=pure () from
  λa b n=>check_star_args _ _ _ _ _ _]
 exact wpAny_pure hq
theorem aq4{d:Drawn}{t:Nat}{T:Cz}{v:Cy}(hb:bm.contains (.type "Exception")=true)
  (hC:h.get? C=some (excClassObj nm q C N bs bm xO sn sub ab col dd k0 k1 k2 k3 k5 newId)) (he:h.get? e=some {cls:=.ref C,data:=.fields #[.ref T,.none,.none,.none,.bool false,.none]})
  (hq:∀h' T',(∀b o,b≠e->h.get? b=some o->h'.get? b=some o)->h'.get? e=some {cls:=.ref C,data:=.fields #[.ref T',.none,.none,.none,.bool false,.none]}->Q .none ⟨h',g,d,t,os⟩):
  CB (CA prog w) A (call (.builtin "Exception.__init__") [.ref e,v]) Q E ⟨h,g,d,t,os⟩:=by
 have F:=Hp;refine FP (Mx F.init.plain F.initEntry (aq6 hb hC he rfl ?_))
 wp_walk
 refine hq _ h.objs.size (λb o BG hb=>?_) ?_
 ·rw[Ed _ _ (Dn BG)];exact C6 _ hb
 ·rw[Em _ (C6 _ he) rfl];rfl
end
section
variable {c:tG}
theorem aq7{e T:Cz}{v:Cy}(XF:uI K B k)(X:K.In B)(wG:B.NoLimit)(yp:∃gg b,B.Ns Df gg/\B.Ns Ec b/\gg "Exception"=none/\b "Exception"=some (.type "Exception"))
  (hB:B.StaysIn h) (hk:∀b o,h.get? b=some o->s.heap.get? b=some o) (hd:A.depth<500) (nE:h.get? e=none) (he:s.heap.get? e=some {cls:=.ref (aT k),data:=.fields #[.ref T,.none,.none,.none,.bool false,.none]})
  (hq:∀h5 t5,(∀b o,h.get? b=some o->h5.get? b=some o)->(∃oe vs,h5.get? e=some oe/\oe.cls=.ref (aT k)/\oe.data=.fields vs/\vs[1]?=some .none/\vs[2]?=some .none)->Q .none {s with heap:=h5,toks:=t5}):
  CB (CA c.prog c.w) A (call (.ref 35) [.ref e,v]) Q E s:=by
 obtain⟨fd,body,FD,ux,zz,uG,atq⟩:=(XF.fd);(refine o_eeeeee (aq3 zz) λp1 ap p2 p3 cp p4=>r_eeeea λp5 p6 p7 p8 zq10 asQ=>?_;clear zz;subst zq10);(refine o_eaeeee XF.cls.at' λoC hC nm q N bs=>r_eeeeee λbm sn sub ab col dd=>r_eeeeea λk0 k1 k2 k3 k5 zq17=>r_aaaa λb1 b2 b3 b4 b5=>?_;subst zq17);obtain⟨gg,bb,n1,n2,n3,n4⟩:=yp;obtain⟨o,ho,y9⟩:=(FD.ob);obtain⟨hh,g,d,t,os⟩:=s;have st:B.StaysIn hh:=λb o e=>hk _ _ (hB _ _ e)
 have kS:fd.scope.names.lookup ("self":Str)=some .local:=uG _ (by simp[fJ])
 have kM:fd.scope.names.lookup ("message":Str)=some .local:=uG _ (by simp[fJ])
 have uU:fJ.Nodup:=by decide
 refine FP (JI (by show A.depth<1000;exact CM hd (by decide)) (st _ _ ho) y9 (wG.keeps st) (FD.code.keeps st) FD.body
  (lB FD.args FD.dflt uU rfl) ux (λy hy=>.inl (uG _ (Fy hy).1)) (λtd X1=>?_) FD.co FD.gen FD.kind)
 obtain⟨h2,t2,rfl,vC⟩:=(X1.done);have hm:∀y v',(y,v')∈fJ.zip [Di e,v]->bindL (CU fd hh.objs.size 35).kindOf (fJ.zip [Di e,v]) (λZ=>none) y=some v':=λy v' hy=>(mW (m':=λZ=>none) (by rw[FY (by simp[fJ])];exact uU) hy).1 (uG _ (Fy (b:=v') hy).1)
 have mS:=hm "self" (.ref e) (by simp[fJ])
 have mM:=hm "message" v (by simp[fJ])
 have Ay:=X1.toInCall.ns;have hLe:hh.objs.size≠e:=CW (Db he);have A7:∀b o,B.get? b=some o->h2.get? b=some o:=λb o e=>vC _ _ (st _ _ e)
 refine Fs (JN (rv (vis:= [(0,("self":Str)),(1,("message":Str))]) (nk:= []) (ps:=.cons (.var 0) (.cons (.var 1) .nil)) ?_ ?_ ?_) ?_ rfl)
 ·exact(gM rfl ⟨rfl,GV _,(show fw "self"=true by decide)⟩ rfl ⟨rfl,List.Mem.tail _ (GV _),(show fw "message"=true by decide)⟩ rfl)
 ·simp only[fu,asQ];rfl
 ·refine Ll FD.kind atq ?_ (by decide);refine Mz (n1.keeps A7 |> λx=>by rw[show(CU fd hh.objs.size 35).globals=Df from FD.glob];exact x) n3 (n2.keeps A7 |> λx=>by rw[show(CU fd hh.objs.size 35).builtins=Ec from FD.blt];exact x) n4 ?_;intro pl;refine ahv ?_
  refine Hx (P:=uZ (.builtin "Exception.__init__")) rfl (λh x=>x.wh h) ?_
  refine JL (Iv (Ge (Gh FD.kind kS Ay mS (Iv (Ge (Gh FD.kind kM Ay mM (spliced_nil ⟨.inl ⟨_,rfl⟩,?_⟩)) (by decide)))) (by decide)));refine aq4 b1 (A7 _ _ hC) (vC _ _ he) λh3 T' xg e3=>?_;refine Fs (ME ?_);obtain⟨oL,es,ep,q1,q2⟩:=Ay;have A8:h3.Ns (CU fd hh.objs.size 35).locals _:=(gc oL es ep (xg _ _ hLe q1) q2);refine Ge (Gh FD.kind kM A8 mM (Ge (Gh FD.kind kS A8 mS ?_) (by decide))) (by decide);have Cf:∀b o,h.get? b=some o->h3.get? b=some o:=λb o q=>xg _ _ (by rintro rfl;rw[nE] at q;cases q) (vC _ _ (hk _ _ q));obtain⟨cd,S⟩:=XF.st;refine aeo (s:=⟨h3,g,d,_,os⟩) (X.keeps λb o q=>Cf _ _ (hB _ _ q)) S (mA:=λZ=>none) (cY _ e3 rfl (λc=>by simp) (.inl ⟨rfl,λZ=>rfl⟩)) Hs (by decide) λh5 t5 I5 yx hs5=>?_;refine Fe ?_;obtain⟨vE,f1,f2,f3,f4,_⟩:=hs5 _ e3;exact hq h5 t5 (λb o q=>yx _ _ (by rintro rfl;rw[nE] at q;cases q) (λuo dx z1 z2=>by rw[e3] at z1;cases z1;cases z2) (Cf _ _ q)) (dS vE _ f1 f2 f3 rfl rfl)
 ·unfold interactive;rw[show(CU fd hh.objs.size 35).scope.kind=.function from FD.kind];rfl
end
section
theorem arb{x:Sem Cy}{Q:Flow->CC->Prop}(hh:A.handled=none)
  (h:CB M A x (λv td=>∃e oe vs,v=.ref e/\uQ td.heap C/\
   td.heap.get? e=some oe/\oe.cls=.ref C/\oe.data=.fields vs/\vs[1]?=some .none/\E (.ref e) td) E s):
  CB M A (raiseStmt env (some x) none) Q E s:=by
 unfold raiseStmt;refine wpAny_bind (C1 h (λv td tj=>?_) λZ Z x=>x);(revert tj;refine r_eeeaaa λe oe vs zq3 zq4 he=>r_aaa λhc hd h1 hE=>?_;subst zq3;obtain⟨oC,hC,nm,q,N,bs,bm,sn,sub,ab,col,dd,k0,k1,k2,k3,k5,rfl,_,arZ,_⟩:=zq4)
 have zx:(Di C::bm).contains (.type "BaseException")=true:=by rw[Fx,arZ,FQ]
 obtain⟨oc,od,odt,osl⟩:=oe;dsimp only at hc hd;subst hc hd;obtain⟨hp,g,d,tk,os⟩:=td;have hf:∀{Q:Unit->CC->Prop},Q () ⟨hp,g,d,tk,os⟩->CB M A (setFlight (.ref e) none) Q E ⟨hp,g,d,tk,os⟩:=λhQ=>by unfold setFlight;refine wpAny_bind (EI he rfl h1 ?_);rw[CJ (by decide)];exact wpAny_pure hQ
 repeat (first |with_reducible refine EQ he ?_ |with_reducible refine EQ hC ?_ |(with_reducible refine Gf hC ?_;rw[zx]) |with_reducible refine hf ?_ |wp_step)
 exact wpAny_raiseNew_none hh hE
end
section
variable {c:tG}{n:Nat}
theorem Ex.data{o p:Obj}(h:Ex o)(e:p.data=o.data):Ex p:=by
 rcases h with⟨vs,q⟩ |⟨xs,n,q⟩
 ·exact .inl ⟨vs,e.trans q⟩
 ·exact .inr (cK xs n (e.trans q))
theorem ahu{fs:List Env}{h5:CF}{e:Cz}(I:Inv c.prog c.w B U μ H h)(hf:∀env∈fs,env.scope.kind≠.module/\∃L o,env.frame=some L/\U L o/\¬Ex o)
  (keep:∀b o,h.get? b=some o->h5.get? b=some o) (nE:h.get? e=none) (he:∃oe vs,h5.get? e=some oe/\oe.cls=.ref (aT k)/\oe.data=.fields vs/\vs[1]?=some .none/\vs[2]?=some .none):hJ U fs k B μ h5 e:=by
 obtain⟨oe,vs,g1,g2,g3,g4,g5⟩:=he;have off:∀env∈fs,∀a,env.frame=some a->B.get? a=none/\a∉μ/\∀o,U a o->¬Ex o:=λenv hm a ha=>by
  refine o_aeeaa (hf env hm) λZ L o q1 q2 q3=>?_;rw[ha] at q1;cases q1;refine o_aaea (I.us _ _ q2) λr1 r2 sl r3 Z=>?_;refine⟨r1,r2,λo' hu hx=>?_⟩;refine o_aaea (I.us _ _ hu) λZ Z Cr r3' Z=>?_;rw[r3] at r3';have:o.data=o'.data:=by have:=CH Jv (C0 r3');exact this
  exact q3 (hx.data this)
 refine(gb (gX h λa=>∀env∈fs,env.frame≠some a) (λa o q=>cP.mpr ⟨I.base _ _ q,λenv hm ha=>?_⟩) (λa ha o q=>?_) (λa o hu hx=>?_) (λa o q=>keep _ _ (cP.mp q).1) ?_ (eH ?_ oe vs g1 g2 g3 (bE (.inl g4) g5)))
 ·rw[(off env hm a ha).1] at q;cases q
 ·obtain⟨i,hi⟩:=Ea.mp ha;have hl:i<H.length:=I.len▸(List.getElem?_eq_some_iff.mp hi).1;obtain⟨ob,wJ,_⟩:=I.objs i a H[i] hi (List.getElem?_eq_getElem hl);rw[keep _ _ wJ] at q;cases q;exact cP.mpr ⟨wJ,λenv hm xz=>(off env hm a xz).2.1 ha⟩
 ·exact cP.mpr ⟨I.at_ hu hx,λenv hm xz=>(off env hm a xz).2.2 o hu hx⟩
 ·cases q:(gX h λa=>∀env∈fs,env.frame≠some a).get? e with
  |none=>rfl
  |some o=>rw[(cP.mp q).1] at nE;cases nE
 ·have key:∀(l:List Env),(∀env∈l,env∈fs)->h5.FunFrames (gX h λa=>∀env∈fs,env.frame≠some a) l:=by
   intro l
   induction l with
   |nil=>intro _;trivial
   |cons env l ih=>intro hl;refine o_aeeaa (hf env (hl env Ds)) λq0 L o q1 q2 q3=>?_;refine o_aaea (I.us _ _ q2) λZ Z sl r3 Z=>?_;exact⟨q0,(jx L _ q1 (oM λz=>z env (hl env Ds) q1) (keep _ _ r3) (λvs q=>q3 (.inl ⟨vs,q⟩))),ih λx hx=>hl x (Dm _ hx)⟩
  exact key fs λZ h=>h
theorem apR{m:Str}{cp:Pos}(hg:glob? nk (cV k)=true)(hk:k<=2):dD c n vis nk (.raise k) (.Raise (some (.Call (.Name (cV k) np) [.Constant (.str m) q cp] [] p)) none pos):=λU0 A env ρ B μ H U s Q E T F G P=>by
 replace P:=tu.to P E5.raise
 split at P
 ·exact P.elim
 ·rename_i vO
  have hh:A.handled=none:=by
   rcases T.uU with⟨_,h⟩ |⟨h,_⟩
   ·exact h
   ·exact CI h vO
  have S:=T.es F;have D:=cL F G;refine o_eeaaaa G.ns λg b n1 n2 Z Z=>r_aaaaaa λZ n6 Z Z Z n10 n11=>?_;obtain⟨K,XK,_,XF⟩:=(G.kx);have XF:=XF k hk;(refine o_eaeeee XF.cls.at' λoC hC nm q' N bs=>r_eeeeee λbm sn sub ab col dd=>r_eeeeea λk0 k1 k2 k3 k5 zq17=>r_aaaa λb1 b2 b3 b4 b5=>?_;subst zq17);rw[arm_exec_Raise];refine wpAny_bind (DN ?_);show CB _ _ (raiseStmt env (some (do let v<-eval (.Call (.Name (cV k) np) [.Constant (.str m) q cp] [] p) env;standAt pos;pure v)) none) _ _ _
  refine arb (C:=aT k) hh (wpAny_bind (Fu rfl (eg (c:=c.tz U) S D hg (ax g b n1 n2 (.inl (n6 k hk))) ?_)));refine jI (c:=c.tz U) (ps:=.cons (.tH m) .nil) (m:=4) (.cons (aaN (e:=.Constant (.str m) q cp) rfl adX λZ Z=>rfl) .nil) S D ?_;dsimp only[E2.cons,E1.tH,E2.nil];intro B' th h' t' tf hB tJ I' hv;obtain⟨cv,rfl,hv'⟩:∃cv,tf=[cv]/\VR B' th (.str m) cv:=hv.o1;refine⟨.inr (.inr (.inr (ae K (XK.keeps λa o e=>I'.base _ _ (hB _ _ e)) XF.keep))),?_⟩;show CB _ _ (call (.ref (aT k)) [cv]) _ _ _;have X':K.In h':=XK.keeps λa o e=>I'.base _ _ (hB _ _ e);have st:B.StaysIn h':=λa o e=>I'.base _ _ (hB _ _ e);refine aq8 b1 b3 b4 (st _ _ hC) X' XF.init XF.fn (by rw[fF];simp) λh1 e hm=>?_;obtain⟨T',e1,_,_⟩:=(hm.there);refine C1 (Q:=λr s'=>r=.none/\∃h5 t5,s'={s with heap:=h5,toks:=t5}/\(∀b o,h'.get? b=some o->h5.get? b=some o)/\∃oe vs,h5.get? e=some oe/\oe.cls=.ref (aT k)/\oe.data=.fields vs/\vs[1]?=some .none/\vs[2]?=some .none)
   (aq7 (s:={s with heap:=h1,toks:=t'}) (h:=h') XF XK G.nolimit (jx g b n1 n2 n10 n11) st hm.keeps (by show A.depth+1<500;have:=T.deep;exact amr this) hm.new e1 λh5 t5 a1 a2=>(jw rfl h5 t5 rfl a1 a2)) (λr s' hr=>⟨hr.1,?_⟩) λZ Z e=>e
  (revert hr;refine r_aeeaae λZ h5 t5 zq3 a1 oe=>r_eaaaa λvs a2 a3 a4 a5 a6=>?_;subst zq3);refine wpAny_bind (DN (wpAny_pure (ce e oe vs rfl (XF.cls.mono λa o q=>a1 _ _ (st _ _ q)) a2 (bY a3 a4 a5 ?_))));have I5:=I'.ext a1;exact P B' th U h5 t5 e ρ hB tJ (F.step hB tJ I5) (ahu (c:=c) I' S.xH.2 a1 hm.new (dS oe vs a2 a3 a4 a5 a6))
end
def ExcAt(U:tm)(fs:List Env)(k:Nat)(B:CF)(μ:List Cz)(h:CF)(e:Cz)(fl:Cy):Prop:=
 ∃base:CF,B.StaysIn base/\(∀a∈μ,∀o,h.get? a=some o->base.get? a=some o)/\(∀a o,U a o->Ex o->base.get? a=some o)/\base.StaysIn h/\base.get? e=none/\h.FunFrames base fs/\
  mF base h e (.ref (aT k)) fl (some .none)
section
variable {c:tG}
theorem acq{fs:List Env}{e:Cz}{fl:Cy}{Q:Unit->CC->Prop}(I:Inv c.prog c.w B U μ H s.heap)(X:ExcAt U fs k B μ s.heap e fl)
  (h:∀h',Inv c.prog c.w B U μ H h'->ExcAt U fs k B μ h' e .none->Q () {s with heap:=h'}):CB (CA c.prog c.w) A (setFlight (.ref e) none) Q E s:=by
 (revert X;refine r_eaaaaa λbase b1 b2 b3 b4 b5=>r_aeeeee λb6 oe vs T oT ts=>r_aaaaaa λg1 g2 g3 g4 g5 g6=>r_aaa λg7 g8 g9 yC=>?_);have t6:3<ts.size:=(Gj.mp yC).1;have other:∀b,b≠T->(s.heap.update T (FJ (·.setIfInBounds 3 Dh))).get? b=s.heap.get? b:=λb hb=>Ed _ _ (Dn hb);have uC:∀b o,s.heap.get? b=some o->(∀vs,o.data≠.fields vs)->b≠T:=λb o hb wu q=>by rw[q,g8] at hb;injection hb with hb;subst hb;exact wu ts g9
 have hB:∀b o,base.get? b=some o->b≠T:=λb o e q=>by rw[q,g6] at e;cases e
 have st:base.StaysIn (s.heap.update T (FJ (·.setIfInBounds 3 Dh))):=λb o e=>(other b (hB b o e)).trans (b4 b o e);unfold setFlight;refine wpAny_bind (EI g1 g3 g5 ?_);rw[CG (show(Di T !=Dh)=true from by simp)];refine Gi g8 g9 t6 (h _ (I.slots b1 b2 b3 st λb o e hn=>⟨o.slots,(other b (uC b o e hn)).trans e⟩) (gb base b1 (λa ha o e=>?_) b3 st b5 (bE (b6.of_keeps λb o e hn=>(ae o ((other b (uC b o e hn)).trans e) rfl)) ?_)))
 ·obtain⟨i,hi⟩:=Ea.mp ha;have hl:i<H.length:=I.len▸(List.getElem?_eq_some_iff.mp hi).1;obtain⟨ob,wJ,_⟩:=I.objs i a H[i] hi (List.getElem?_eq_getElem hl);have q:=b2 a ha ob wJ;have q2:=(st _ _ q).symm.trans e;clear wJ;cases q2;exact q
 ·exact(iQ oe vs T _ _ ((other e (Dn g7)).trans g1) (dv g2 g3 g4 g5 g6 g7 (bT (Em _ g8 (Hn (Gc g9 _))) (Gc g9 _) (by simp[t6]))))
theorem ExcAt.free{fs:List Env}{e:Cz}{fl:Cy}(I:Inv c.prog c.w B U μ H h)(X:ExcAt U fs k B μ h e fl):
  B.get? e=none/\e∉μ/\(∀o,¬U e o)/\∃oe vs,h.get? e=some oe/\oe.cls=.ref (aT k)/\oe.data=.fields vs/\vs[2]?=some .none:=by
 (revert X;refine r_eaaaaa λbase b1 b2 b3 b4 b5=>r_aeeeee λb6 oe vs T oT ts=>r_aaaa λg1 g2 g3 g4 Z=>?_);refine(aio ?_ (λhm=>?_) (λo hu=>?_) oe vs g1 (bT g2 g3 g4))
 ·cases q:B.get? e with
  |none=>rfl
  |some o=>rw[b1 _ _ q] at b5;cases b5
 ·obtain⟨i,hi⟩:=Ea.mp hm;have hl:i<H.length:=I.len▸(List.getElem?_eq_some_iff.mp hi).1;obtain⟨ob,wJ,_⟩:=I.objs i e H[i] hi (List.getElem?_eq_getElem hl);have:=b2 e hm ob wJ;rw[b5] at this;cases this
 ·refine o_aaea (I.us _ _ hu) λZ Z sl r3 Z=>?_;rw[g1] at r3;have hx:Ex o:=.inl ⟨vs,by have:=CH Jv (C0 r3);exact this.symm.trans g3⟩;have:=b3 e o hu hx;rw[b5] at this;cases this
theorem aq9{e:Cz}{Q:Bool->CC->Prop}(Ck:uQ s.heap (aT k))(Cj:uQ s.heap (aT j))(he:s.heap.get? e=some oe)(hc:oe.cls=.ref (aT k))(hq:Q (aT k==aT j) s):
  CB (CA c.prog c.w) A (excMatches (.ref e) (.ref (aT j))) Q E s:=by
 (refine o_eaeeee Ck.at' λoC hC nm q N bs=>r_eeeeee λbm sn sub ab col dd=>r_eeeeea λk0 k1 k2 k3 k5 zq17=>r_aaaa λZ arZ Z Z hno=>?_;subst zq17);(refine o_eaeeee Cj.at' λoC' hC' nm' q' N' bs'=>r_eeeeee λbm' sn' at9 ab' atZ dd'=>r_eeeeea λk0' A6 A7 Cf k5' zq17=>r_aa λZ ar5 Z=>?_;subst zq17);clear Ck Cj;obtain⟨hp,g,d,t,os⟩:=s
 have zx:(Di (aT j)::bm').contains (.type "BaseException")=true:=by rw[Fx,ar5,FQ]
 have BH:(Di (aT k)::bm).contains (.ref (aT j))=(aT k==aT j):=by
  rw[Fx,hno j,Gn]
  by_cases q:aT k=aT j
  ·rw[q];simp
  ·rw[EF.mpr q,EF.mpr (λz=>q (Di.inj z).symm)]
 have f:=tc_notTuple;unfold excMatches
 repeat (first |(with_reducible refine EQ he ?_;rw[hc]) |with_reducible refine EQ hC' ?_ |(with_reducible refine Gf hC' ?_;rw[zx]) |(with_reducible refine Gf hC ?_;rw[BH]) |wp_step)
 cases hb:(aT k==aT j)<;>(rw[hb] at hq;wp_walk;exact hq)
end
noncomputable def tG.tK(c:tG):tG:={c with Γ:={c.Γ with C:=λZ Z Z=>.bad,hd:=true}}
theorem arc{R:Result->CC->Prop}{e:Cy}
  (h:CB (CA prog w) A (setFlight e none) (λZ td=>CB (CA prog w) A (Dw body env) (λf tF=>R (.ok f) tF) (notedBy (CA prog w) A env λx tF=>R (.error x) tF) td) (notedBy (CA prog w) A env λx td=>R (.error x) td) s):
  codeAny (CA prog w) A (.handlers e [.ExceptHandler none none body pos] env) R s:=by
 refine Hz ?_;show CB _ A (do return Fin.done (<-(handleWith e env [.ExceptHandler none none body pos]).onRaise (λx=>do noteFrame x env;theTreesLotGoes x))) _ _ s
 refine wpAny_bind (JT ?_);have:handleWith e env [.ExceptHandler none none body pos]=(do standAt pos;setFlight e none;Dw body env):=by clear h;cases body<;>rfl
 rw[this];exact wpAny_bind (DN (wpAny_bind (C1 h (λZ td tj=>C1 tj (λf tF tU=>wpAny_pure tU) λZ Z x=>x) λZ Z x=>x)))
section
variable {c:tG}{n:Nat}
theorem tu.wk{r:R Fl}{Q:Flow->CC->Prop}(le:∀b p,U0 b p->U0' b p)(P:tu c U0 env vis s B μ r Q E):tu c U0' env vis s B μ r Q E:=by
 cases r with
 |ok fl H'=>
  cases fl with
  |next ρ'=>exact λve uu vZ tU u6 x y F=>P ve uu vZ tU u6 x y (F.weak le)
  |ret v=>exact λve uu vZ tU u6 cv ρ' x y F w=>P ve uu vZ tU u6 cv ρ' x y (F.weak le) w
 |exc k H'=>exact λve uu vZ tU u6 e ρ' x y F w=>P ve uu vZ tU u6 e ρ' x y (F.weak le) w
 |bad=>exact P
theorem tu.as4{A':Around}{r:R Fl}{Q:Flow->CC->Prop}(T:FE c U0 A env nk n)(hA:A'.frames=some c.fs)(P:tu c U0 env vis s B μ r Q E):
  tu c U0 env vis s B μ r Q (notedBy (CA c.prog c.w) A' env λe s'=>cameBackBy (CA c.prog c.w) A env E e s'):=by
 cases r with
 |ok fl H'=>cases fl<;>exact P
 |exc k H'=>intro B' th U' h' t' e ρ' x y F w;obtain⟨yB,h1,h2,h3⟩:=T.top;refine nY hA h1 h2 F.inv w λyd I x2=>?_;refine aa0 h2 I x2 λh3' I2 x3=>?_;exact P B' th U' h3' t' e ρ' x y (F.step (λZ Z e=>e) (Pre.refl _) I2) (x3.exc h1 h2)
 |bad=>exact P
theorem aca{e:Cz}{fl:Cy}(T:FE c U0 A env nk n)(F:FS true c.prog c.w U0 env vis ρ B μ H U h)(X:ExcAt U c.fs k B μ h e fl):
  ∃oe,h.get? e=some oe/\oe.cls=.ref (aT k)/\FE c.tK (U0.put e oe) (A.mark (some (.ref e))) env nk n/\FS true c.prog c.w (U0.put e oe) env vis ρ B μ H (U.put e oe) h/\∀b p,U0 b p->U0.put e oe b p:=by
 refine o_aaaeea (X.free F.inv) λn1 n2 n3 oe vs e1=>r_aa λe2 e3 e4=>?_;have xq:∀p,¬U0 e p:=λp hu=>n3 p (F.keep _ _ hu);have um:e≠env.locals:=by obtain⟨o,es,ep,g1,_⟩:=F.own.dict;exact λq=>n3 o (q▸g1)
 have vT:∀x b,env.cells.lookup x=some b->env.kindOf x=some .cell->b≠e:=λx b q1 q2=>by obtain⟨o,v,g4,_⟩:=F.own.cell rfl x b q1 q2;exact λq=>n3 o (q▸g4)
 have ur:∀o,h.get? e=some o->∀v,o.data≠.cell v:=λo q v z=>by rw[e1] at q;cases q;rw[e3] at z;cases z
 have T1:=T.put (o:=oe) xq um vT;refine(kg oe e1 e2 ⟨T1.kind,T1.glob,T1.blt,T1.kinds,T1.cls,T1.frames,T1.top,T1.deep,T1.units,?_,T1.off⟩ ((F.wA um ur n1 n2 xq (λZ Z Z q=>q) e1).up (tm.tV _ _ _)) (λb p hu=>tm.tO (λq=>xq p (q▸hu)) hu));exact .inr (nj rfl (λZ Z Z=>rfl) e oe vs rfl (bT (tm.tV _ _ _) e3 e4))
inductive HS(c:tG)(n:Nat)(vis:aN)(nk:aP):xv->List Dy->Prop where
 |nil:HS c n vis nk .nil []
 |cons {k:Nat} {b:tQ} {hs:xv} {x:List Stmt} {xp:List Dy} {np pos:Pos} (hg:glob? nk (cV k)=true) (hk:k<=2) (h:d9 c.tK n vis nk b x) (t:HS c n vis nk hs xp):
   HS c n vis nk (.cons k b hs) (.ExceptHandler (some (.Name (cV k) np)) none x pos::xp)
theorem sZ(k:Nat):aT k=aT (min k 2):=by
 match k with
 |0=>rfl
 |1=>rfl
 |k+2=>rw[show min (k+2) 2=2 by exact(Fn (EM ..))];cases k<;>rfl
theorem aq2(j k:Nat):(aT k==aT j)=decide (min j 2=min k 2):=by
 rw[sZ k,sZ j];have hj:min j 2=0\/min j 2=1\/min j 2=2:=by exact adp
 have hk:min k 2=0\/min k 2=1\/min k 2=2:=by exact adp
 rcases hj with hj |hj |hj<;>rcases hk with hk |hk |hk<;>(rw[hj,hk];rfl)
theorem uk.exc(G:uk prog w B)(k:Nat):uQ B (aT k):=by obtain⟨K,_,_,XF⟩:=G.kx;rw[sZ];exact(XF _ ams).cls
theorem aic{hs:xv}{xp:List Dy}(hh:HS c n vis nk hs xp):∀(U0:tm)(A:Around)(env:Env)(ρ:aB)(B:CF)(μ:List Cz)(H:AH)(U:tm)(s:CC)(Q:Flow->CC->Prop)(E:Cy->CC->Prop)(k:Nat)(e:Cz),
  FE c U0 A env nk n->FS true c.prog c.w U0 env vis ρ B μ H U s.heap->uk c.prog c.w B->ExcAt U c.fs k B μ s.heap e .none->tu c U0 env vis s B μ (handle c.Γ k hs ρ H) Q E->CB (CA c.prog c.w) A (handleBy (.ref e) env xp) Q E s:=by
 induction hh with
 |nil=>exact λU0 A env ρ B μ H U s Q E k e T F G X P=>(tu.to P E7.nil).elim
 |@cons j b hs x xp np pos hg hj hb ht ih=>
  intro U0 A env ρ B μ H U s Q E k e T F G X P;replace P:=tu.to P E7.cons;obtain⟨oe,e1,e2,T',F',le⟩:=aca T F X;refine o_eeaaaa G.ns λg bb n1 n2 Z Z=>r_aa λZ n6 Z=>?_;refine wpAny_handleBy_cons (codeAny_handlers_test (eg (c:=c.tK.tz (U.put e oe)) (T'.es F') (cL (c:=c.tK) F' G) hg (ax g bb n1 n2 (.inl (n6 j hj))) ?_)) (by intro q;cases q);refine aq9 ((G.exc k).mono F.inv.base) ((G.exc j).mono F.inv.base) e1 e2 ?_;rw[aq2]
  split at P
  ·rename_i BS
   rw[C5 BS];refine arc (acq F.inv X λh' I' X'=>?_);have F1:=F.step (λZ Z e=>e) (Pre.refl _) I';obtain⟨oe',_,_,T1,F1',le'⟩:=aca T F1 X';exact hb _ _ env ρ B μ H _ {s with heap:=h'} _ _ T1 F1' G (((tu.shift P (λZ Z e=>e) (Pre.refl _) h' s.toks).as4 T (A':=A.mark (some (.ref e))) T.frames).wk le')
  ·rename_i BS
   rw[Dx BS];exact ih U0 A env ρ B μ H U s Q E k e T F G X P
theorem apU{e:PE}{hs:xv}{v:CD}{xp:List Dy}(hv:gz c n vis nk e v)(ht:TE vis nk e v)(hn:bM v=true)(hh:HS c n vis nk hs xp):dD c n vis nk (.vK e hs) (.Try [.Expr v p] xp [] [] pos):=λU0 A env ρ B μ H U s Q E T F G P=>by
 replace P:=tu.to P E5.vK
 cases hh with
 |nil=>rw[FQ,CG rfl] at P;exact P.elim
 |cons hg hk hb htl=>
  rw[Gn] at P
  split at P
  ·exact P.elim
  ·rename_i hc
   obtain⟨yB,t1,t2,t3⟩:=(T.top);refine wpAny_Try_except (Fs (JN ((hv U).v A env ρ 4 B μ H s _ _ (T.es F) (cL F G) ?_) ?_ (jD ht hn _ _ _)))
   ·(revert P;refine cX (ev c.Γ e 4 ρ H) λr zQ P=>?_)
    cases r with
    |ok v' H'=>
     intro B' th h' t' cv hB tJ I w;refine Fe (Fe ?_);dsimp only at P
     split at P
     ·exact P B' th U h' t' hB tJ (F.step hB tJ I)
     ·exact P.elim
    |exc k H'=>intro B' th h' t' ea hB tJ I w;have F1:=F.step hB tJ I;refine nY T.frames t1 t2 I w λh1 I1 x1=>?_;refine acq I1 x1 λh2 I2 x2=>?_;exact aic (.cons hg hk hb htl) U0 A env ρ B' th H' U {s with heap:=h2,toks:=t'} Q E k ea T (F1.step (λZ Z e=>e) (Pre.refl _) I2) (G.mono hB) x2 (tu.shift P hB tJ h2 t')
    |bad=>exact P.elim
   ·unfold interactive;rw[T.kind];rfl
end
structure tW(c:tG)(n:Nat):Prop where
 CO:∀U,eS (c.tz U) n
 NO:∀U,ia (c.tz U) n
 LR:hV c n
 ZR:iC c n
section
variable {n:Nat}
section
variable {c:tG}{ps:PS}{st':Stmt}
theorem i7(h:st=st')(v:dD c n vis nk ps st'):dD c n vis nk ps st:=by subst h;exact v
theorem ssN{st:List Stmt}(h:st=[]):d9 c n vis nk .nil st:=by subst h;exact apQ
theorem ssC{s:PS}{wq gs:List Stmt}{t:Stmt}(h:wq=t::gs)(h1:dD c n vis nk s t)(h2:d9 c n vis nk ss gs):d9 c n vis nk (.cons s ss) wq:=by subst h;exact apL h1 h2
theorem hsN{l:List Dy}(h:l=[]):HS c n vis nk .nil l:=by subst h;exact .nil
theorem hsC{b:tQ}{hs:xv}{l l':List Dy}{x:List Stmt}(h:l=.ExceptHandler (some (.Name (cV k) np)) none x p::l')(h1:glob? nk (cV k)=true)(h2:k<=2)(h3:d9 c.tK n vis nk b x)(h4:HS c n vis nk hs l'):HS c n vis nk (.cons k b hs) l:=by subst h;exact .cons h1 h2 h3 h4
end
theorem afr{c:tG}(K:tW c n)(uq:bQ vis=true){e:PE}{v:CD}(h:TE vis nk e v):∀{t:PT},TT vis nk t tg v->dD c n vis nk (.assign t e) (.Assign [tg] v p)
 | .var i,q=>by rw[q.1];exact apI K.CO K.NO K.LR K.ZR uq q.2.1 q.2.2 h
 | .tup is,q=>by obtain⟨es,k,tp,h1,h2⟩:=rz q.2.1;subst h1;exact apK (λU=>cG K.CO K.NO K.LR K.ZR h U) h q.2.2.2.2.2.1 q.2.2.2.2.2.2 uq h2 q.2.2.1 q.2.2.2.1 q.2.2.2.2.1
 | .sub a i,q=>by rw[q.1];exact apJ (λU=>cG K.CO K.NO K.LR K.ZR q.2.2.1 U) (λU=>cG K.CO K.NO K.LR K.ZR q.2.2.2 U) (λU=>cG K.CO K.NO K.LR K.ZR h U) h q.2.1
mutual
theorem aei{c:tG}(K:tW c n)(KH:tW c.tK n)(uq:bQ vis=true):∀(ps:PS){st:Stmt},TS vis nk ps st->dD c n vis nk ps st
 | .assign t e,_,h=>i7 h.1 (afr K uq h.2.1 h.2.2)
 | .expr e,_,h=>i7 h.1 (apM (λU=>cG K.CO K.NO K.LR K.ZR h.2.2 U) h.2.2 h.2.1)
 | .ret e,_,h=>i7 h.1 (apS (λU=>cG K.CO K.NO K.LR K.ZR h.2 U))
 | .ifs d a b,_,h=>i7 h.1 (apO (λU=>cG K.CO K.NO K.LR K.ZR h.2.1 U) (ut K KH uq a h.2.2.1) (ut K KH uq b h.2.2.2))
 | .uO d b,_,h=>i7 h.1 (apV (λU=>cG K.CO K.NO K.LR K.ZR h.2.1 U) (ut K KH uq b h.2.2))
 | .for t one it b,_,h=>i7 h.1 (apN (λU=>cG K.CO K.NO K.LR K.ZR h.2.2.2.2.1 U) h.2.2.2.2.1 uq h.2.1 h.2.2.1 h.2.2.2.1 (ut K KH uq b h.2.2.2.2.2))
 | .raise k,_,h=>i7 h.1 (apR h.2.1 h.2.2)
 | .vK e hs,_,h=>i7 h.1 (apU (λU=>cG K.CO K.NO K.LR K.ZR h.2.2.1 U) h.2.2.1 h.2.1 (art K KH uq hs h.2.2.2))
 | .defn _ _,_,h=>h.elim
theorem ut{c:tG}(K:tW c n)(KH:tW c.tK n)(uq:bQ vis=true):∀(ps:tQ){st:List Stmt},vo vis nk ps st->d9 c n vis nk ps st
 | .nil,_,h=>ssN h
 | .cons s ss,_,h=>ssC h.1 (aei K KH uq s h.2.1) (ut K KH uq ss h.2.2)
theorem art{c:tG}(K:tW c n)(KH:tW c.tK n)(uq:bQ vis=true):∀(hs:xv){xp:List Dy},AG vis nk hs xp->HS c n vis nk hs xp
 | .nil,_,h=>hsN h
 | .cons k b hs,_,h=>hsC h.1 h.2.1 h.2.2.1 (ut KH KH uq b h.2.2.2.1) (art K KH uq hs h.2.2.2.2)
end
theorem aeh{c:tG}(K:tW c n)(KH:tW c.tK n)(uq:bQ vis=true){ps:PS}(h:TS vis nk ps st):dD c n vis nk ps st:=aei K KH uq ps h
theorem sB{c:tG}(K:tW c n)(KH:tW c.tK n)(uq:bQ vis=true){ps:tQ}{st:List Stmt}(h:vo vis nk ps st):d9 c n vis nk ps st:=ut K KH uq ps h
end
abbrev tG.inner(c:tG)(env:Env)(n:Nat):tG:={c with fs:=env::c.fs,Γ:=⟨run n,100000,false⟩}
noncomputable def lz(r:R Fl):R AV:=r.bind λfl H=>match fl with
 | .ret v=>.ok v H
 | .next _=>.ok .none H
section
variable {c:tG}{n:Nat}{U1:tm}
theorem aaL(S:d9 (c.inner env n) n vis nk bd body)(T:FE (c.inner env n) c.U A env nk n)
  (F:FS true c.prog c.w c.U env vis ρ B μ H U1 s.heap) (G:uk c.prog c.w B) (P:s6 c s B μ VR (lz (CE ⟨run n,100000,false⟩ bd ρ H)) Q E):
  CB (CA c.prog c.w) A (Dw body env) (λf s'=>Q (match f with | .ret v=>v |_=>.none) s') (λe s'=>CB (CA c.prog c.w) A (leaving env e) (λZ wo=>E e wo) (λe' wo=>E e' wo) s') s:=by
 refine S c.U A env ρ B μ H U1 s _ _ T F G ?_;have hf:env.frame=some env.locals:=by obtain⟨_,_,h,_⟩:=T.top;exact h
 unfold lz at P;revert P;show s6 c s B μ VR ((CE ⟨run n,100000,false⟩ bd ρ H).bind _) Q E->tu (c.inner env n) c.U env vis s B μ (CE ⟨run n,100000,false⟩ bd ρ H) _ _
 cases CE ⟨run n,100000,false⟩ bd ρ H with
 |ok fl H'=>
  cases fl with
  |next ρ'=>exact λP B' th U' h' t' hB tJ F'=>P B' th h' t' .none hB tJ (F'.inv.less F'.keep) .none
  |ret v=>exact λP B' th U' h' t' cv ρ' hB tJ F' w=>P B' th h' t' cv hB tJ (F'.inv.less F'.keep) w
 |exc k H'=>intro P B' th U' h' t' e ρ' hB tJ F' w;exact ai7 T.frames hf F'.inv w F'.keep λh2 I2 w2=>P B' th h2 t' e hB tJ I2 w2
 |bad=>exact λP=>P
theorem sg{n np:Nat}(h:dJ k=some (np,nv,bd))(hl:vs.length=np):run (n+1) k vs H=lz (CE ⟨run n,100000,false⟩ bd (vs++CK (nv-np) .undef) H):=by rw[kJ,h];dsimp only;rw[CG hl];rfl
theorem lE{a:Cz}{np:Nat}{ps:List Str}(D:vg B a fd body ps)(F:vL np nv vis ps fd.scope.names)(hS:gA A c.U c.fs)(hd:A.depth+(n+1)<480)(hu:A.units+60*(n+1)<=8950)(hh:A.handled=none)
  (uH:Off true c.U (CU fd L a)):FE (c.inner (CU fd L a) n) c.U (A.deeper (CU fd L a)) (CU fd L a) fd.scope.names n where
 kind:=D.kind
 glob:=D.glob
 blt:=D.blt
 kinds:=λx=>rfl
 cls:=λx hx=>by
  rcases hx with hx |hx
  ·exact FL.mp (mZ (.inr (mem_of_lookup hx)))
  ·exact CI hx (F.ar8 x)
 frames:=JW hS.1
 top:=(aI c.fs rfl rfl hS.2)
 deep:=by show A.depth+1+n<480;exact adq hd
 units:=by show A.units+3+60*n+100<=9000;exact amt hu
 uU:=.inl ⟨rfl,hh⟩
 off:=uH
theorem ago(hS:∀c:tG,c.Γ=⟨run n,100000,false⟩->tW c n/\tW c.tK n)(c:tG)(hc:c.Γ.C=run (n+1)):eS c (n+1):=by
 intro A k vs tf B μ H s Q E yV hd hu hh I G hv hk q30 q31 P;rw[hc] at P
 cases hf:dJ k with
 |none=>rw[kJ,hf] at P;exact P.elim
 |some x=>
  obtain⟨np,nv,bd⟩:=x
  by_cases hl:vs.length=np
  ·rw[sg hf hl] at P;refine o_eeeeaa (G.wW k np nv bd hf (amu hk) q30 q31) λfd body ps vis D ux=>r_a λF wz=>?_;refine aaX D F I G.nolimit hv hl (by show A.depth<1000;exact CM (Nat.lt_of_le_of_lt (Nat.le_add_right ..) hd) (by decide)) (λtj uy uH FS=>?_) ux;have K:=hS (c.inner (CU fd s.heap.objs.size (bK k)) n) rfl;exact aaL (sB K.1 K.2 F.ok wz) (lE D F yV hd hu hh uH) FS G (s6.shift P (λZ Z e=>e) (Pre.refl _) tj uy)
  ·rw[kJ,hf] at P;dsimp only at P;rw[CJ hl] at P;exact P.elim
end
theorem VR.ary(h:v4 env x B μ v cv)(hp:fA v=true):VR B μ v cv:=by cases v<;>first |exact h |cases hp
section
variable {c:tG}{n:Nat}
theorem ai5{i m:Nat}{t8:List Nat}{C:R AV->Prop}(hb:¬C .bad)(h:C (ev Γ (.tB i t8) m ρ H)):∃vs,ρ[i]?=some (.fn 41)/\t8.mapM (λj=>ρ[j]?)=some vs/\vs.all fA=true/\C (Γ.C 41 vs H):=by
 rw[E1.tB] at h
 cases q:ρ[i]? with
 |none=>rw[q] at h;exact(hb h).elim
 |some v=>
  rw[q] at h
  cases v with
  |fn k=>
   dsimp only at h
   cases q2:t8.mapM λj=>ρ[j]? with
   |none=>rw[q2] at h;exact(hb h).elim
   |some vs=>
    rw[q2] at h;dsimp only at h
    by_cases hk:k=41/\vs.all fA=true
    ·rw[CG hk] at h;clear q;obtain⟨rfl,hp⟩:=hk;exact(cY vs rfl rfl hp h)
    ·rw[CJ hk] at h;exact(hb h).elim
  |_=>exact(hb h).elim
theorem ajr{j1 j2:Nat}(h:[j1,j2].mapM (λj=>ρ[j]?)=some vs):∃w u,ρ[j1]?=some w/\ρ[j2]?=some u/\vs=[w,u]:=by
 cases q1:ρ[j1]? with
 |none=>simp[Gx,q1] at h
 |some w=>
  cases q2:ρ[j2]? with
  |none=>simp[Gx,q1,q2] at h
  |some u=>simp[Gx,q1,q2] at h;exact(ax w u rfl rfl h.symm)
theorem ajf(hS:∀c:tG,c.Γ=⟨run n,100000,false⟩->tW c n/\tW c.tK n)(hc:c.Γ.C=run (n+1)):hV c (n+1):=by
 intro U vis nk i j1 j2 x np pos h1 h2 h3 h4 A env ρ m B μ H s Q E S D P;refine o_eaaa (ai5 (C:=λr=>s6 (c.tz U) s B μ VR r Q E) id P) λvs q e3 yr P=>?_;obtain⟨w,h,q1,q2,e⟩:=ajr e3;clear e3;subst e;rw[show(c.tz U).Γ.C=run (n+1) from hc] at P;simp only[HT,List.all_nil,IB,Bool.and_eq_true] at yr;(obtain⟨cf,zq1,vf⟩:=D.env i x _ h1 q (by simp);obtain⟨⟨f,rfl,O,kc⟩,kl⟩:=zq1);have nu:∀{v:AV},fA v=true->v≠.undef:=λhp e=>by rw[e] at hp;cases hp
 obtain⟨cw,gw,uw⟩:=D.env j1 _ _ h3 q1 (nu yr.1);obtain⟨ch,gh,uh⟩:=D.env j2 _ _ h4 q2 (nu yr.2);have gw:=VR.ary gw yr.1;have gh:=VR.ary gh yr.2
 have cellOf:∀{y:Str}{cv:Cy},(y=("width":Str)\/y=("height":Str))->lq env U y cv->∃a o,env.cells.lookup y=some a/\U a o/\o.data=.cell (some cv):=λhy hu=>by
  rcases hu with⟨g,_⟩ |⟨_,a,o,g1,g2,g3,_⟩
  ·rw[kc _ hy] at g;cases g
  ·exact(ax a o g1 g2 g3)
 refine o_eeaaaa O.ex λfd body FD wz wi ux=>r_aa λu8 asM ats=>?_;obtain⟨ob,ho,y9⟩:=(FD.ob);simp only[fw,Bool.and_eq_true,Fb,ne_eq] at h2;refine Fu rfl (Ge (acx D.inv S.kind vf h2.2 ?_) (by simpa using h2.1));refine Hx (P:=uZ (.ref f)) rfl (λh x=>x.wh h) (JK ⟨.inr (.inr (.inl (bZ f ob fd rfl (D.inv.base _ _ ho) y9))),?_⟩);show CB _ _ (call (.ref f) []) _ _ _;have yt:run (n+1) 41 [w,h] H=lz (CE ⟨run n,100000,false⟩ ig [w,h,.undef] H):=(sg (nv:=3) (vs:= [w,h]) (bd:=ig) rfl rfl).trans rfl;rw[yt] at P;refine FP (codeAny_call_plain (binds:= []) (by have:=S.deep;show A.depth<1000;exact CM (Nat.lt_of_le_of_lt (Nat.le_add_right ..) this) (by decide)) (D.inv.base _ _ ho) y9 (D.uv.nolimit.keeps D.inv.base) (FD.code.keeps D.inv.base) FD.body (lB (ps:= []) FD.args FD.dflt Ie rfl) wi (λx hx=>by cases hx) (λh₀ yp yn=>?_) FD.co FD.gen FD.kind);have new:B.get? s.heap.objs.size=none/\s.heap.objs.size∉μ/\∀p,¬U s.heap.objs.size p:=⟨D.inv.xh,D.inv.nextM,D.inv.wy⟩;obtain⟨oL,es,ep,eL,dL,kL,_⟩:=yp;have I':=(D.inv.ext yn).more eL new.1 new.2.1;have low:∀y a,fd.closure.lookup y=some a->∃o v,U a o/\o.data=.cell v/\a≠s.heap.objs.size:=λy a e=>by
  obtain⟨e1,hy⟩:=ux y a e;have:∃a o v,env.cells.lookup y=some a/\U a o/\o.data=.cell v:=by
   clear e e1;rcases hy with rfl |rfl
   ·obtain⟨a,o,z1,z2,z3⟩:=cellOf (.inl rfl) uw;exact(bZ a o _ z1 z2 z3)
   ·obtain⟨a,o,z1,z2,z3⟩:=cellOf (.inr rfl) uh;exact(bZ a o _ z1 z2 z3)
  obtain⟨a',o,v,z1,z2,z3⟩:=this;rw[e1] at z1;cases z1;exact(ax o v z2 z3 (λq=>new.2.2 o (q▸z2)))
 have uH:Off true U (callEnv fd s.heap.objs.size f):=⟨new.2.2,λZ y a p e1 e2=>CI rfl (wi _ (mem_of_lookup (show fd.scope.names.lookup y=some .cell from e2)))⟩;have T:FE ((c.tz U).inner (callEnv fd s.heap.objs.size f) n) U (A.deeper (callEnv fd s.heap.objs.size f)) (callEnv fd s.heap.objs.size f) fd.scope.names n:=by
  refine⟨FD.kind,FD.glob,FD.blt,λy=>rfl,λy hy=>?_,JW S.xH.1,(aI c.fs rfl rfl S.xH.2),by have:=S.deep;show A.depth+1+n<480;exact adq this,by have:=S.units;show A.units+3+60*n+100<=9000;exact amv this,?_,uH⟩
  ·rcases hy with hy |hy
   ·exact CI rfl (wi _ (mem_of_lookup hy))
   ·exact asM y ((u8 y).mp hy)
  ·rcases S.uU with⟨_,h⟩ |⟨_,hb,_⟩
   ·exact .inl ⟨rfl,h⟩
   ·have:=hb 41 [w,h] H;rw[show(c.tz U).Γ.C=run (n+1) from hc,yt] at this;rw[this] at P;exact P.elim
 have FSv:FS true c.prog c.w U (callEnv fd s.heap.objs.size f) [(0,("width":Str)),(1,("height":Str))] [w,h,.undef] B μ H (U.add s.heap.objs.size oL) h₀:=by
  refine⟨I',?_,⟨(bZ oL es ep (.inr ⟨rfl,rfl⟩) dL kL),?_,?_,?_,?_⟩,λb p hu=>.inl hu⟩
  ·intro i' y v hm hr zd
   have key:∀{y:Str}{v:AV}{cv:Cy},(y=("width":Str)\/y=("height":Str))->VR B μ v cv->lq env U y cv->∃cv,v4 (callEnv fd s.heap.objs.size f) y B μ v cv/\lq (callEnv fd s.heap.objs.size f) (U.add s.heap.objs.size oL) y cv:=λ{y v cv} hy hv hu=>by obtain⟨a,o,z1,z2,z3⟩:=cellOf hy hu;obtain⟨a',e'⟩:=asM y hy;have:=(ux y a' e').1;rw[z1] at this;cases this;exact(ae cv hv.xk (.inr (eH (.inr ((u8 y).mpr hy)) a o e' (.inl z2) z3 (λ(q:a=s.heap.objs.size)=>new.2.2 o (q▸z2)))))
   simp only[CR,Ir,DE,DG] at hm;rcases hm with⟨rfl,rfl⟩ |⟨rfl,rfl⟩
   ·clear zd;cases hr;exact key (.inl rfl) gw uw
   ·clear zd;cases hr;exact key (.inr rfl) gh uh
  ·rintro b (rfl |⟨_,y,e1,e2⟩) p q' hp hq
   ·rcases hp with hp |⟨_,rfl⟩
    ·exact CI hp (new.2.2 p)
    ·rcases hq with hq |⟨_,rfl⟩
     ·exact CI hq (new.2.2 q')
     ·rfl
   ·exact CI rfl (wi _ (mem_of_lookup (show fd.scope.names.lookup y=some .cell from e2)))
  ·intro _ y a e1 e2;exact CI rfl (wi _ (mem_of_lookup (show fd.scope.names.lookup y=some .cell from e2)))
  ·exact λZ y z a e1 e2=>ats y z a e1 e2
  ·intro _ y a e1;obtain⟨_,_,_,_,z⟩:=low y a e1;exact z
 have K:=hS ((c.tz U).inner (callEnv fd s.heap.objs.size f) n) rfl;exact aaL (c:=c.tz U) (s:={s with heap:=h₀,toks:=s.toks+0}) (sB K.1 K.2 (by decide) wz) T FSv D.uv (s6.shift P (λZ Z e=>e) (Pre.refl _) h₀ _)
end
def afh(z TI TO i1 i2 l1 l2:Cz)(p q:Nat)(_:CF)(μ:List Cz)(j:Nat)(h:CF):Prop:=IsZip h z TI TO .none/\IsPair h TI (.ref i1) (.ref i2)/\(∃a b,IsPair h TO a b)/\h.IsListIter i1 l1 j/\h.IsListIter i2 l2 j/\μ[p]?=some l1/\μ[q]?=some l2
theorem arf{c:tG}{z TI TO i1 i2 l1 l2:Cz}{p:Nat}(D:ZipApart z TI TO i1 i2 l1 l2)(hh:A.handled=none):
  Src c A (.Tuple es k pos) z [z,TI,TO,i1,i2] (λH j=>fg H (.ref p) (.ref q) j) (afh z TI TO i1 i2 l1 l2 p q) where
 at_:=λ⟨a1,a2,⟨a,b,a3⟩,a4,a5,a6,a7⟩ k hB tJ=>(dv (k z (by simp) _ a1) (k TI (by simp) _ a2) (cK a b (k TO (by simp) _ a3)) (a4.at λo e=>k i1 (by simp) o e) (a5.at λo e=>k i2 (by simp) o e) (tJ _ _ a6) (tJ _ _ a7))
 obj:=λ⟨a1,a2,⟨a,b,a3⟩,⟨o4,e4,_,f4⟩,⟨o5,e5,_,f5⟩,_⟩ x hx=>by
  simp only[CR,DE,DG] at hx;clear D;rcases hx with rfl |rfl |rfl |rfl |rfl
  ·exact(ae _ a1 (.inl ⟨_,rfl⟩))
  ·exact(ae _ a2 (.inr (cK _ _ rfl)))
  ·exact(ae _ a3 (.inr (cK _ _ rfl)))
  ·exact(ae _ e4 (.inl ⟨_,f4⟩))
  ·exact(ae _ e5 (.inl ⟨_,f5⟩))
 self:=λ⟨a1,_⟩ q=>MV a1 q
 next:=λU B μ H s j r Q E E' hU I ⟨a1,a2,⟨a,b,a3⟩,a4,a5,a6,a7⟩ hi h1 h2=>by
  unfold fg at hi;replace hi:=uf.pL hi;obtain⟨p',xs,hp',g1,hi⟩:=hi;cases hp';replace hi:=uf.pL hi;obtain⟨q',ys,hq',g2,hi⟩:=hi;cases hq';cases hi;obtain⟨cxs,n1,e1,v1,_⟩:=I.list a6 g1;obtain⟨cys,n2,e2,v2,_⟩:=I.list a7 g2;have fin:(xs[j]?=none\/ys[j]?=none)->CB (CA c.prog c.w) A (pyNext (.ref z)) (λr td=>match r with |none=>Q none td |some v=>CB (CA c.prog c.w) A (FO (.Tuple es k pos) (.ref z) v) (λZ tF=>Q (some v) tF) E' td) E s:=λhn=>by
   have hr:((xs[j]?).bind λx=>(ys[j]?).map λy=>AV.tup [x,y])=none:=by
    rcases hn with q |q
    ·rw[q];rfl
    ·rw[q];cases xs[j]? <;>rfl
   refine wpAny_pyNext_zip_end hh D a1 a2 a3 a4 a5 (cH e1) (cH e2) ?_ λh' hk=>h2 h' hr λb o hb=>?_
   ·rcases hn with q |q
    ·left;rw[Ha,EU,v1.length];exact EU.mp q
    ·right;rw[Ha,EU,v2.length];exact EU.mp q
   ·simp only[CR,DE,DG,Fq] at hb;exact hk b o hb.1 hb.2.2.1 hb.2.2.2.1 hb.2.2.2.2
  cases gx:xs[j]? with
  |none=>exact fin (.inl gx)
  |some x=>
   cases gy:ys[j]? with
   |none=>exact fin (.inr gy)
   |some y=>
    obtain⟨cx,x1,x2⟩:=v1.get gx;obtain⟨cy,y1,y2⟩:=v2.get gy;refine wpAny_pyNext_zip_item D a1 a2 a3 a4 a5 (cH e1) (cH e2) (by simpa using x1) (by simpa using y1) λh' b1 b2 b3 b4 b5 b6 b7=>?_;have lt:∀{c o},s.heap.get? c=some o->s.heap.objs.size≠c:=λe=>CW (Db e);refine wpAny_letOwnedTupleGo_zip b1 λBy c1 c2=>?_;refine h1 (.tup [x,y]) _ By s.toks (by rw[gx,gy];rfl) (.inr (ce s.heap.objs.size ([x,y]) ([cx,cy]) rfl rfl (IM (Nat.le_refl _)) (bE (c2.extBut _ _ (lt a1) b5) (.cons x2 (.cons y2 .nil)))))
     (dv c1 (c2.extBut _ _ D.TIz (b7 _ _ D.TIz D.TITO D.TIi1 D.TIi2 a2)) (cK _ _ (c2.extBut _ _ D.TOz b2)) (b3.extBut c2.extBut D.i1z) (b4.extBut c2.extBut D.i2z) a6 a7) λb o hb e=>?_
    simp only[CR,DE,DG,Fq] at hb;exact c2.extBut _ _ hb.1 (b7 b o hb.1 hb.2.2.1 hb.2.2.2.1 hb.2.2.2.2 e)
section
variable {c:tG}{n:Nat}
theorem aeU:iC c n:=by
 intro U vis nk elt t one it xG conds uR tg vq yW tS sc pos xs np zp hi hi2 hg yq hx hl uG hkf hf hE hC A env ρ m B μ H s Q E S D P;subst yq;have hk:=rk hkf;obtain⟨hf,uq⟩:=Ff.mp hf
 cases m with
 |zero=>replace P:=s6.to P E1.arW;exact P.elim
 |succ m=>
  have hT:∃es k p,tg=.Tuple es k p:=by obtain⟨es,k,p,e,_⟩:=rz hx;exact(nG es k p e)
  obtain⟨es,kk,tp,rfl⟩:=hT;rw[eval_ListComp]
  show CB _ _ (comprehension _ sc env _ (newList []) false (eval (.Call (.Name "zip" np) [vq,yW] [] zp) env) none) _ _ _
  obtain⟨cl,yi,vT⟩:=abb hf S.cls;refine MM rfl (λx=>rfl) yi hk (λy hy e=>(jJ hf (k:=y.2) hy).2.1 e) ?_;refine o_eeaaaa D.uv.ns λg b n1 n2 Z Z=>r_aaaaa λZ Z Z n8 n9 Z=>?_
  refine Fu (x:="zip") rfl (eg S D hg (ax g b n1 n2 (.inr ⟨n8,n9⟩)) ?_)
  have P1:s6 (c.tz U) s B μ VR ((uc c.Γ (.cons it (.cons xG .nil)) (m+1) ρ H).bind λvs H=>jF .bad vs λsrc q=>if c.Γ.hd=true then .bad else
   (dn (λH j=>fg H src q j) (gG c.Γ elt t false conds m ρ) (cJ H src+1) 0 [] H).bind λxs H=>cn xs H) Q E:=s6.to P E1.asm
  refine jI (c:=c.tz U) (ps:=.cons it (.cons xG .nil)) (first:= []) (.cons (hi U) (.cons (hi2 U) .nil)) S D (aX D P1 λvs H' B' th s' tf e D' v' hB tJ P'=>⟨.inr (.inl ⟨_,rfl⟩),?_⟩)
  show CB _ _ (call _ tf) _ _ _;refine aij λKQ kK=>?_;obtain⟨src,q,e,P'⟩:=P'.p2;subst e
  ·split at P'
   ·exact P'.elim
   ·rename_i vO
    have hh:A.handled=none:=ni S (show c.Γ.hd=false by simpa using vO);replace P':s6 (c.tz U) s' B' th VR ((dn (λH j=>fg H src q j) (gG c.Γ elt t false conds m ρ) (cJ H' src+1) 0 [] H').bind λxs H=>cn xs H) Q E:=P';have ym:∃r,fg H' src q 0=some r:=by
     cases z:fg H' src q 0 with
     |some r=>exact⟨r,rfl⟩
     |none=>rw[Aa.s] at P';rw[z] at P';exact P'.elim
    obtain⟨r,ym⟩:=ym;unfold fg at ym;replace ym:=uf.pL ym;obtain⟨p,xs',rfl,g1,ym⟩:=ym;replace ym:=uf.pL ym;(revert ym;refine r_eeaa λq' Cx zq2 g2 ym=>?_;clear e;subst zq2);obtain⟨cl1,cl2,rfl,vl1,vl2⟩:=(v'.o2);(obtain⟨l1,zq1,yS⟩:=(vl1.r);clear vl1;subst zq1);(obtain⟨l2,zq1,At⟩:=(vl2.r);clear vl2 v';subst zq1);obtain⟨cxs,m1,e1,_,_⟩:=D'.inv.list yS g1;obtain⟨cys,m2,e2,_,_⟩:=D'.inv.list At g2;refine call_zip_2 (cH e1) (cH e2) λh' z1 z2 z3 z4 z5 z6 z7=>kK _ _ ?_;have ap:=zipApart_new (n:=s'.heap.objs.size) (Db e1) (Db e2);have D1:uX (c.tz U) env vis ρ B' th H' h':=⟨D'.inv.ext z7,D'.env,D'.uv⟩;refine MV z1 ?_;rcases abm (item:=λH j=>fg H (.ref p) (.ref q') j) (f:=gG c.Γ elt t false conds m ρ) (cJ H' (.ref p)+1) 0 [] H' with⟨xV,HF,xu⟩ |bad
    ·rw[xu] at P';replace P':s6 (c.tz U) s' B' th VR (cn xV HF) Q E:=P';unfold cn at P'
     split at P'
     ·rename_i hlen
      have fresh:∀a,s'.heap.objs.size<=a->B'.get? a=none/\a∉th/\∀p,¬U a p:=λa ha=>by
       refine⟨?_,λhm=>CS _ (Nat.lt_of_lt_of_le (D'.inv.lt hm) ha),λp hu=>CS _ (Nat.lt_of_lt_of_le (D'.inv.zI hu) ha)⟩
       cases q:B'.get? a with
       |none=>rfl
       |some o=>exact CI (Nat.lt_of_lt_of_le (Db (D'.inv.base _ _ q)) ha) (CS _)
      refine abo (c:=c.tz U) (s:={s' with heap:=h'}) (RR:=compPost (CA c.prog c.w) A E none Q) (λU'=>hE U') (λU'=>hC U') S hx hl uG hk hf uq vT (.inr hh) (arf (q:=q') ap hh) D1 (dv z1 z2 (cK _ _ z3) z4 z5 yS At) (λa ha=>fresh a ?_) xu hlen ?_
      ·simp only[CR,DE,DG] at ha;rcases ha with rfl |rfl |rfl |rfl |rfl<;>first |exact Nat.le_add_right _ _ |exact Nat.le_refl _
      ·intro Dl C B2 vF h2 t2 aso nD uW ud I2 eD vD fD fC yL zu;obtain⟨mm,hm⟩:=zu;have J:=I2.adopt eD fD.1 fD.2.1 fD.2.2 (ao:=.list xV) (ax aso nD rfl vD hlen) (jC rfl);have nC:C∉vF++[Dl]:=λhm=>(DJ.mp hm).elim fC.2.1 λq=>yL (DD.mp q);exact(ae mm hm (λh3 hs=>P' B2 _ h3 t2 _ uW (ud.trans (Pre.snoc _ _)) (J.but hs.extBut fC.1 nC fC.2.2) (.ref _ _ (kt I2.len))))
     ·exact P'.elim
    ·rw[bad] at P';exact P'.elim
end
theorem acX(c:tG)(n:Nat):ia c n:=by intro A k vs tf B μ H s Q E yV hd hu hh I G hv hl hk P;obtain⟨K,XK,N,_⟩:=(G.kx);exact ajX hk (amw hd) G.nolimit XK (N k hk) I hv hl P
theorem pA{c:tG}{n:Nat}(h:∀k vs H,c.Γ.C k vs H=.bad):tW c n where
 CO:=λU A k vs tf B μ H s Q E Z Z Z Z Z Z Z Z Z Z P=>by rw[show(c.tz U).Γ.C k vs H=.bad from h k vs H] at P;exact P.elim
 NO:=λU=>acX _ n
 LR:=λU vis nk i j1 j2 x np pos Z Z Z Z A env ρ m B μ H s Q E S D P=>by
  obtain⟨v,_,P⟩:=(s6.to P E1.ar7).pO;refine o_ea ((anS (C:=λr=>s6 (c.tz U) s B μ VR r Q E) P).resolve_right id) λk Z P=>?_;obtain⟨vs,_,P⟩:=P.pO
  split at P
  ·rw[show(c.tz U).Γ.C k vs H=.bad from h k vs H] at P;exact P.elim
  ·exact P.elim
 ZR:=aeU
theorem mK:∀(n:Nat)(c:tG),c.Γ=⟨run n,100000,false⟩->tW c n/\tW c.tK n:=by
 intro zi
 induction zi with
 |zero=>
 exact @λc h=>⟨pA λk vs H=>by rw[h];rfl,pA λZ Z Z=>rfl⟩
 |succ n ih=>
 exact @λc h=>⟨⟨λU=>ago (ih) (c.tz U) (by show c.Γ.C=_;rw[h]),λU=>acX _ _,ajf (ih) (by rw[h]),aeU⟩,pA λZ Z Z=>rfl⟩
noncomputable def gL:List String:= ["bytearray.__contains__","bytearray.__mod__","bytearray.__rmod__","_struct.pack_into.held","bytearray.find.held"]++J9
noncomputable def jk:Code->Bool
 | .builtin id _=> !gL.contains id
 |_=>true
def li(l:List (Code×Pos)):Prop:=∀x∈l,jk x.1=true
def ai{α:Type}(M:Model)(A:Around)(t:Sem α)(Q:α->CC->Prop)(s:CC):Prop:=∀Γ p,Γ.In A->jk Γ.code=true->li Γ.below->Sem.wp M Γ t (λa Z s'=>Q a s') (λZ Z Z=>False) p s
def dm(M:Model)(A:Around)(c:Code)(Q:Flow->CC->Prop)(s:CC):Prop:=∀Γ p,Γ.code=c->Γ.Below A->li Γ.below->wpCode M Γ (λr s'=>∃f,r=.ok f/\Q f s') p s
def bH:Cy->CC->Prop:=λZ Z=>False
section
theorem c8{t:Sem α}{Q:α->CC->Prop}(h:CB M A t Q bH s):ai M A t Q s:=λΓ p a Z Z=>h Γ p a
theorem cQ{t:Sem α}{Q Q':α->CC->Prop}(h:ai M A t Q s)(hQ:∀a s,Q a s->Q' a s):ai M A t Q' s:=λΓ p a b c=>Ht M Γ t (λa Z s=>hQ a s) (λZ Z Z x=>x) p s (h Γ p a b c)
theorem c9{a:α}{Q:α->CC->Prop}(h:Q a s):ai M A (pure a) Q s:=λZ Z Z Z Z=>h
theorem bv{m:Sem α}{f:α->Sem β}{Q:β->CC->Prop}(h:ai M A m (λa s'=>ai M A (f a) Q s') s):ai M A (m>>=f) Q s:=λΓ p a b c=>by rw[Mo];exact Ht M Γ m (λx p' s' h'=>h' Γ p' a b c) (λZ Z Z h'=>h') p s (h Γ p a b c)
theorem q9{t:Sem α}{Q:α->CC->Prop}(h:∀Q':α->CC->Prop,(∀a s,Q a s->Q' a s)->ai M A t Q' s):ai M A t Q s:=h Q λZ Z x=>x
theorem bg{m:Sem α}{f:α->Sem β}{Q:β->CC->Prop}(h:CB M A m (λa s'=>ai M A (f a) Q s') bH s):ai M A (m>>=f) Q s:=bv (c8 h)
theorem o9{m:Sem α}{k:Cy->Sem Unit}{Q:α->CC->Prop}(h:ai M A m Q s):ai M A (m.onRaise k) Q s:=λΓ p a b c=>by rw[Sem.wp_onRaise];exact Ht M Γ m (λZ Z Z h'=>h') (λZ Z Z h'=>h'.elim) p s (h Γ p a b c)
theorem ja{vs:List Cy}{m:Sem α}{Q:α->CC->Prop}(h:ai M A m Q s):ai M A (holding vs m) Q s:=λΓ p a b c=>by rw[Sem.wp_holding];exact h Γ p a b c
theorem aqR{vs:List Cy}{m:Sem α}{Q:α->CC->Prop}(h:ai M A m Q s):ai M A (m.keep vs) Q s:=λΓ p a b c=>by rw[Sem.wp_keep];exact h Γ p a b c
theorem hG{Q:Unit->CC->Prop}(h:Q () s):ai M A (standAt pos) Q s:=c8 (DN h)
theorem aaZ{Γ:PySem.Ctx}{c:Code}{h:Option Cy}(a:jk Γ.code=true)(b:li Γ.below):li (Γ.enter c h p).below:=λx hx=>by
 rcases CR.mp hx with rfl |hx
 ·exact a
 ·exact b x hx
theorem aqS{c:Code}{Q:Flow->CC->Prop}(hc:dm M A c Q s):ai M A (PySem.run c) Q s:=λΓ p a b d=>by rw[Sem.wp_run];refine wpCode_mono (λr s' h=>?_) (hc _ p rfl (a.enter c none p (by intro x;cases x)) (aaZ b d));obtain⟨f,rfl,q⟩:=h;exact q
theorem aqT{c:Code}{Q:Flow->CC->Prop}(hc:dm M A c Q s):ai M A (runOwn c env) Q s:=by unfold runOwn;exact o9 (aqS hc)
theorem kZ{f:Cy}{pos:List Cy}{kw:List (Str×Cy)}(hc:dm M A (.call f ⟨pos,kw⟩) (λf s'=>∃v,f=.ret v/\Q v s') s):
  ai M A (call f pos kw) Q s:=λΓ p a b d=>by
 show Sem.wp M Γ (runValue _) _ _ p s;rw[Sem.wp_runValue];refine wpCode_mono (λr s' h=>?_) (hc _ p rfl (a.enter _ none p (by intro x;cases x)) (aaZ b d));(revert h;refine r_eaea λf zq1 v zq3 q=>?_;subst zq1;subst zq3);exact q
theorem j7{c:Code}{Q:Flow->CC->Prop}(hq:jk c=true)
  (h:ai M (A.under c) (M.den c) (λfin s'=>match fin with | .done f=>Q f s' | .again c'=>c'.quiet=true/\dm M A c' Q s') s):dm M A c Q s:=λΓ p hc A3 hb=>by
 rw[wpCode_iff_wp,hc];refine Ht M Γ _ (λfin p' s' h'=>?_) (λZ Z Z h'=>h'.elim) p s (h Γ p (hc▸A3.in) (hc▸hq) hb)
 cases fin with
 |done f=>exact(ae f rfl h')
 |again c'=>exact⟨h'.1,h'.2 (Γ.goto c') p' rfl (A3.goto c') hb⟩
theorem agy{c:Code}{Q:Flow->CC->Prop}(hc:jk c=true)(hq:c.quiet=true)(I:Nat->CC->Prop)
  (turn:∀n s,I n s->ai M (A.under c) (M.den c)
   (λfin s'=>match fin with
    | .done f=>Q f s'
    | .again c'=>(c'=c/\∃m,m<n/\I m s')\/(c'.quiet=true/\dm M A c' Q s')) s)
  (n:Nat) (h:I n s):dm M A c Q s:=by
 induction n using LP generalizing s with
 |ind n ih=>
  refine j7 hc (cQ (turn n s h) (λfin s' hf=>?_))
  cases fin with
  |done f=>exact hf
  |again c'=>
   rcases hf with⟨rfl,m,hm,hI⟩ |hf
   ·exact⟨hq,ih m hm hI⟩
   ·exact hf
theorem aj4{b:Bool}(h:(!b)=true):b=false:=by cases b;rfl;cases h
theorem hn{x y:String}(q:gL.contains x=false)(h:gL.contains y=true):x≠y:=λe=>by rw[e,h] at q;cases q
theorem qY{x:String}(q:gL.contains x=false):J9.contains x=false:=by refine J4.mpr λh=>?_;have q2:gL.contains x=true:=HV.mpr (Ji _ (HV.mp h));rw[q2] at q;cases q
theorem aim{Q:Bool->CC->Prop}(h:Q false s):ai M A (IF self) Q s:=λΓ p a b c=>by
 unfold IF;rw[Mo];show Q (List.any ((Γ.code,p)::Γ.below) _) s;have key:li ((Γ.code,p)::Γ.below):=λx hx=>by
  rcases CR.mp hx with e |hx
  ·rw[e];exact b
  ·exact c x hx
 refine Eq.mpr (CH (λb=>Q b s) (HU.mpr λx hx=>?_)) h;have q:=key x hx;refine J4.mp ?_;cases x with |mk cd ps=>?_
 cases cd with
 |builtin id args=>
  have n:gL.contains id=false:=aj4 q;delta MZ
  refine(dif_neg (hn n (by decide:gL.contains "bytearray.__contains__"=true))).trans ?_
  refine(dif_neg (hn n (by decide:gL.contains "bytearray.__mod__"=true))).trans ?_
  refine(dif_neg (hn n (by decide:gL.contains "bytearray.__rmod__"=true))).trans ?_
  refine(dif_neg (hn n (by decide:gL.contains "_struct.pack_into.held"=true))).trans ?_
  refine(dif_neg (hn n (by decide:gL.contains "bytearray.find.held"=true))).trans ?_
  cases args with |mk l kw=>?_
  cases l with
  |nil=>rfl
  |cons v l=>exact(CH (M2 v self&&·) (qY n)).trans (HG _)
 |_=>rfl
end
section
theorem agz{c:Code}{Q:Flow->CC->Prop}(h:codeAny M A c (λr s'=>∃f,r=.ok f/\Q f s') s):dm M A c Q s:=λΓ p a b Z=>h Γ p a b
theorem hZ{rest:List Stmt}{Q:Flow->CC->Prop}(h:ai M A (EP st env) (λf s'=>match f with | .next=>ai M A (Dw rest env) Q s' |f=>Q f s') s):ai M A (Dw (st::rest) env) Q s:=by rw[execs_cons];refine bv (cQ h λf s' h'=>?_);cases f<;>first |exact h' |exact c9 h'
theorem aeZ{test:CD}{orelse:List Stmt}{Q:Flow->CC->Prop}(h:ai M A (isTrue test env (eval test env)) (λb tF=>if b then ai M A (Dw body env) Q tF else ai M A (Dw orelse env) Q tF) s):
  ai M A (EP (.If test body orelse pos) env) Q s:=by
 rw[exec_If];refine bv (hG (bv (cQ h λb tF tU=>?_)));cases b<;>exact tU
theorem ae5{x:CD}{whole:Sem Cy}{Q:Bool->CC->Prop}(h:ai M A (isTrue x env (eval x env)) (λb td=>Q (!b) td) s):ai M A (isTrue (.UnaryOp .Not x pos) env whole) Q s:=by rw[arm_isTrue_UnaryOp];exact bv (cQ h λb td tj=>c9 tj)
theorem ae9{x y:CD}{whole:Sem Cy}{Q:Bool->CC->Prop}(h:ai M A (isTrue x env (eval x env)) (λb td=>if b then Q true td else ai M A (isTrue y env (eval y env)) Q td) s):
  ai M A (isTrue (.BoolOp .Or [x,y] pos) env whole) Q s:=by
 rw[arm_isTrue_BoolOp];show ai M A (do match J7,<-isTrue x env (eval x env) with | .And,false=>pure false | .Or,true=>pure true |_,_=>allTrue .Or [y] env) Q s
 refine bv (cQ h λb td tj=>?_)
 cases b with
 |true=>exact c9 tj
 |false=>
  show ai M A (do match J7,<-isTrue y env (eval y env) with | .And,false=>pure false | .Or,true=>pure true |_,_=>allTrue .Or [] env) Q td
  refine bv (cQ tj λb tF tU=>?_);cases b<;>exact c9 tU
theorem ae6{e:CD}{whole:Sem Cy}{Q:Bool->CC->Prop}(h:ai M A whole (λv td=>∃b,v=.bool b/\Q b td) s)
  (he:isTrue e env whole=(do let v<-whole;standAt e.pos;holding [v] (truthy v)):=by rfl):ai M A (isTrue e env whole) Q s:=by
 rw[he];refine bv (cQ h λv td tj=>?_);obtain⟨b,rfl,q⟩:=tj;exact c8 (wpAny_bind (DN (Dv (ER q))))
theorem ph{e:CD}{Q:Flow->CC->Prop}(h:ai M A (eval e env) (λv=>Q (.ret v)) s):ai M A (EP (.Return (some e) pos) env) Q s:=by rw[exec_Return_some];exact bv (hG (bv (cQ h λv td tj=>c9 tj)))
theorem ae2{r:CD}{op:Operator}(h:CB M A (eval l env) (λa td=>ai M A (eval r env) (λb tF=>CB M A (binaryOp op a b) Q bH tF) td) bH s):
  ai M A (eval (.BinOp l op r pos) env) Q s:=by
 rw[eval_BinOp];refine bg (C1 h (λa td tj=>bv (ja (cQ tj λb tF tU=>?_))) λZ Z x=>x);refine bv (hG (c8 λΓ p A3=>?_));rw[Sem.wp_operate];exact tU Γ p A3
theorem aeS{d:Prop}[Decidable d]{x y:Sem α}{Q:α->CC->Prop}(h1:ai M A x Q s)(h2:ai M A y Q s):ai M A (if d then x else y) Q s:=if e:d then by rw[CG e];exact h1 else by rw[CJ e];exact h2
theorem aae{f:Cy}{first:List Cy}{P:CF->Prop}{args:List (Bool×Sem Cy)}(arG:(args.any (·.1))=false)
  (hk:∀h,P h->∃k,(k=KG\/k=KI\/k=KE)/\Looks M h (keeperOf f) k)
  (h:ai M A (spliced args) (λvs td=>P td.heap/\ai M A (call f (first++vs) []) Q td) s):ai M A (callWith pos f first args []) Q s:=by
 have asA:ai M A (evalArgs f true args []) (λa td=>P td.heap/\ai M A (call f (first++a.pos) a.kw) Q td) s:=by
  have tail:∀vs s',(P s'.heap/\ai M A (call f (first++vs) []) Q s')->ai M A (holding vs (do
    let kw:= []
    return(⟨vs,kw⟩:Args))) (λa td=>P td.heap/\ai M A (call f (first++a.pos) a.kw) Q td) s':=λvs s' h=>ja (c9 h)
  match args,arG,h with
  |[],_,h=>unfold evalArgs;show ai M A (spliced []>>=_) _ s;refine bv (cQ h λvs s' h'=>?_);exact ja (c8 (wpAny_bind (wpAny_pure (wpAny_bind (wpAny_pure (wpAny_pure h'))))))
  |(false,x)::rest,_,h=>unfold evalArgs;show ai M A (spliced ((false,x)::rest)>>=_) _ s;refine bv (cQ h λvs s' h'=>?_);exact ja (c8 (wpAny_bind (wpAny_pure (wpAny_bind (wpAny_pure (wpAny_pure h'))))))
  |(true,x)::rest,hp,_=>cases hp
 unfold callWith;refine bv (ja (cQ asA λa td tj=>bv (hG ?_)));obtain⟨k,wS,L⟩:=hk _ tj.1;rw[arG];refine bg (L.here ?_);have tail:∀{t:Sem Cy},ai M A t Q td->ai M A (t>>=λr=>holding [r] point>>=λZ=>pure r) Q td:=λht=>bv (cQ ht λr tF hr=>c8 (wpAny_bind (Dv (JU (wpAny_pure hr)))))
 have marked (mk:Cy):ai M A (callMarked mk f (first++a.pos) a.kw) Q td:=by unfold callMarked;exact aqR tj.2
 clear L;rcases wS with rfl |rfl |rfl
 ·exact aeS (tail tj.2) (tail (marked _))
 ·exact tail tj.2
 ·exact aeS (tail tj.2) (tail (marked _))
theorem afb{x:Sem Cy}{rest:List (Bool×Sem Cy)}{Q:List Cy->CC->Prop}(h:ai M A x (λv td=>ai M A (spliced rest) (λvs tF=>Q (v::vs) tF) td) s):ai M A (spliced ((false,x)::rest)) Q s:=by rw[spliced];refine bv (cQ h λv td tj=>?_);simp -iota only[Fg,Fd];exact bg (wpAny_pure (bv (ja (cQ tj λvs tF tU=>c9 tU))))
theorem lk{args:List CD}{trees:List (Bool×Sem Cy)}(ht:backTo pos (starEach args env)=trees)
  (h:CB M A (eval (.Name x p) env) (λf td=>ai M A (callWith pos f [] trees []) Q td) bH s):ai M A (eval (.Call (.Name x p) args [] pos) env) Q s:=by
 subst ht;exact bg h
end
section
theorem aeX{e:CD}{Q:Flow->CC->Prop}(h:ai (CA prog w) A (eval e env) (λZ=>Q .next) s)(hi:interactive env=false)(hs:swapsWith e none pos.line env=pure false):ai (CA prog w) A (EP (.Expr e pos) env) Q s:=by rw[exec_Expr env e pos hi hs];exact bv (hG (bv (cQ h λv s' h'=>c8 (wpAny_dropValue h'))))
theorem ae4{it:Cy}{Q:Flow->CC->Prop}(I:Nat->CC->Prop)
  (turn:∀n s (N:CC->Prop) (K1:Option Cy->CC->Prop),(∀m s,m<n->I m s->N s)->(∀td,Q .next td->K1 none td)->
   (∀v td,CB (CA prog w) A (FO target it v) (λZ uV=>CB (CA prog w) A (assign target env v) (λZ tF=>ai (CA prog w) A (Dw body env) (λf ue=>f=.next/\N ue) tF) bH uV) bH td->K1 (some v) td)->I n s->CB (CA prog w) A (pyNext it) K1 bH s)
  (n:Nat) (h:I n s):dm (CA prog w) A (.forLoop target it body [] env) Q s:=by
 refine agy rfl rfl I (λn s hI=>?_) n h;have hA:A.under (.forLoop target it body [] env)=A:=Around.under_of_weight rfl;rw[hA];show ai _ _ ((forTurn target it body [] env).onRaise (λx=>do noteFrame x env;theTreesLotGoes x)) _ s
 refine o9 ?_;simp -iota only[forTurn];refine bv (hG (bv (o9 (c8 (C1 (turn n s (λs=>∃m,m<n/\I m s) (λr td=>match r with
   |none=>Q .next td
   |some v=>CB (CA prog w) A (FO target it v) (λZ uV=>CB (CA prog w) A (assign target env v) (λZ tF=>ai (CA prog w) A (Dw body env) (λf ue=>f=.next/\∃m,m<n/\I m ue) tF) bH uV) bH td) (λm Z a b=>⟨m,a,b⟩) (λZ h=>h) (λZ Z h=>h) hI) (λr td tj=>?_) λZ Z h'=>h')))))
 cases r with
 |none=>exact c9 (.inr ⟨rfl,agz (codeAny_block (Fe (ae _ rfl tj)))⟩)
 |some v=>refine bg (C1 tj (λZ uV xd=>?_) λZ Z h'=>h');refine bg (C1 xd (λZ tF tU=>bv (cQ tU λf ue vI=>?_)) λZ Z h'=>h');obtain⟨rfl,vI⟩:=vI;exact c9 (.inl ⟨rfl,vI⟩)
theorem aeY{iter:CD}{Q:Flow->CC->Prop}
  (h:CB (CA prog w) A (eval iter env) (λx td=>CB (CA prog w) A (pyIter x) (λit tF=>dm (CA prog w) A (.forLoop target it body [] env) Q tF) bH td) bH s)
  (hs:∀x,foldedSetIterable iter env x=pure x):ai (CA prog w) A (EP (.For target iter body [] pos) env) Q s:=by
 rw[exec_For];exact bv (hG (bg (C1 h (λx td tj=>bg (C4 (hs x) (bv (hG (bg (Dv
  (C1 tj (λit tF tU=>aqT tU) λZ Z h'=>h'))))))) λZ Z h'=>h')))
theorem agx{Q:Flow->CC->Prop}(h:ai (CA prog w) (A.deeper env) (Dw body env) (λf s'=>Q (.ret (match f with | .ret v=>v |_=>.none)) s') s):dm (CA prog w) A (.func body env) Q s:=by
 refine j7 rfl ?_;show ai _ (A.deeper env) (do point;match<-(Dw body env).onRaise (leaving env) with | .ret v=>ret v |_=>ret .none) _ s
 refine bg (JU (bv (o9 (cQ h λf s' h'=>?_))));cases f<;>exact c9 h'
theorem agw{a:Cz}{o:Obj}{vals:List Cy}{binds:List (Str×Cy)}{Q:Flow->CC->Prop}
  (xa:A.depth<recursionLimit) (ho:s.heap.get? a=some o) (asH:o.data=.func fd) (wG:s.heap.NoLimit) (hcd:s.heap.CodeRec fd.code fd.qualname)
  (asE:fd.body=.stmts body) (asB:bindArgs fd ⟨vals,[]⟩=pure binds) (ux:fd.closure=[])
  (asN:∀x∈binds,fd.scope.names.lookup x.1=some .local\/(fd.scope.names.lookup x.1=some .cell/\((cellsFrom (s.heap.objs.size+1) fd.scope.names []).lookup x.1).isSome=true))
  (h:∀td,InCallC s (CU fd s.heap.objs.size a).locals (bindL (CU fd s.heap.objs.size a).kindOf binds λZ=>none) (CU fd s.heap.objs.size a).cells
    (bindC (CU fd s.heap.objs.size a).kindOf binds λZ=>none) td->
   ai (CA prog w) (A.deeper (CU fd s.heap.objs.size a)) (Dw body (CU fd s.heap.objs.size a)) (λf s'=>Q (.ret (match f with | .ret v=>v |_=>.none)) s') td)
  (hco:fd.scope.isCoroutine=false) (atp:fd.scope.isGenerator=false) (hk:fd.scope.kind=.function):
  dm (CA prog w) A (.call (.ref a) ⟨vals,[]⟩) Q s:=by
 refine j7 rfl ?_;show ai _ A.in1 (callAny (.ref a) ⟨vals,[]⟩) _ s;show ai _ A.in1 (load a>>=_) _ s;refine bg (Gg ho ?_);rw[asH];show ai _ A.in1 (callFunction a fd ⟨vals,[]⟩) _ s;(revert hcd;refine r_eeeeaa λc oc vs tq hc Ca=>r_a λqY hq=>?_);delta callFunction;rw[hc,hco,atp,asE];dsimp only;refine bg (EI Ca qY hq (bg (wpAny_pure ?_)));rw[asB,ux];refine bg (wpAny_pure (bg ?_));rw[<-hc];refine wpAny_newFunctionEnv_cells hk asN λenv he s' x=>?_;subst he;exact bg (wpAny_enterFrame (wG.keeps x.toInCall.keep) xa (c9 ⟨rfl,agx (h s' x)⟩))
end
namespace BA
theorem mro:mroOf (.type "bytearray")=pure [.type "bytearray",.type "object"]:=by rw[mroOf_type];kernel_rfl
theorem ajh:typeLookup (.type "bytearray") "__new__"=pure (some (.builtin "bytearray.__new__")):=by rw[Ew,Ev];kernel_rfl
theorem sub:isSubtype (.type "bytearray") (.type "bytearray")=pure true:=by rw[It];kernel_rfl
theorem uN:Slot "bytearray" "__init__" "bytearray.__init__":=
 .of (n:="__init__") (by rw[Ew,Ev];kernel_rfl) (by decide+kernel) (by decide+kernel) (by decide+kernel)
  (by first |exact .inl (by decide+kernel) |exact .inr (by decide+kernel)) sub
theorem u4:Slot "bytearray" "append" "bytearray.append":=
 .of (n:="append") (by rw[Ew,Ev];kernel_rfl) (by decide+kernel) (by decide+kernel) (by decide+kernel)
  (by first |exact .inl (by decide+kernel) |exact .inr (by decide+kernel)) sub
theorem arv:typeOf (.builtin "bytearray.append")=pure (.type "method_descriptor"):=by show builtinType _=_;rw[Mw];kernel_rfl
theorem arx:PlainAttrs "bytearray":=
 ⟨(ae "bytearray.__getattribute__" (by rw[Ew,Ev];kernel_rfl) (by decide+kernel)),by rw[Ew,Ev];kernel_rfl⟩
theorem made:TypeCalled "bytearray" "bytearray.__new__" "bytearray.__init__":=⟨by decide+kernel,by decide+kernel,(cK _ _ mro),madeBy_type mro ajh (by decide+kernel),by decide+kernel,sub,uN⟩
theorem typeCall:checkTypeCall "bytearray" ⟨[],[]⟩=pure ():=by kernel_rfl
theorem arR:Fc "bytearray.__new__" ⟨[.type "bytearray"],[]⟩=pure ():=by kernel_rfl
theorem arB:entryFor table "bytearray.__new__"=some Builtin.«list.__new__»:=entryFor_alias (id':="list.__new__") (by kernel_rfl) rfl (by decide+kernel) (by kernel_rfl)
theorem arw:entryFor table "bytearray.__init__"=some Builtin.«bytearray.__init__»:=JJ (by kernel_rfl)
theorem arl:entryFor table "bytearray.append"=some Builtin.«bytearray.append»:=JJ (by kernel_rfl)
theorem arn(a b:Cy):argsOk "bytearray.append" ⟨[a,b],[]⟩:=by unfold argsOk;kernel_rfl
theorem arz(a:Cy):argsOk "bytearray.__init__" ⟨[a],[]⟩:=by unfold argsOk;kernel_rfl
theorem ark:plainId "bytearray.__new__"=true:=by decide+kernel
set_option maxRecDepth 1000000 in
set_option maxHeartbeats 4000000 in
theorem arD:("bytearray.__new__".splitOn ".__new__").headD ""="bytearray":=by simp+decide [String.splitOn,String.splitOnAux]
end BA
section
theorem abj{id:String}{args:Args}{b:Builtin}{Q:Flow->CC->Prop}(hc:jk (.builtin id args)=true)(hb:entryFor table id=some b)
  (h:ai (CA prog w) (A.under (.builtin id args)) (b args) (λfin s'=>match fin with | .done f=>Q f s' | .again c'=>c'.quiet=true/\dm (CA prog w) A c' Q s') s):dm (CA prog w) A (.builtin id args) Q s:=by
 refine j7 hc ?_
 show ai _ _ (match entryFor table id with |some b=>b args |none=>unsupported ((withoutEnding? id "#data").getD id)) _ s
 rw[hb];exact h
theorem abk{id:String}{args:Args}{b:Builtin}{Q:Flow->CC->Prop}(hc:jk (.builtin id args)=true)(hq:plainId id=true)(hb:entryFor table id=some b)
  (h:CB (CA prog w) A.in1 (Fc id args) (λZ td=>ai (CA prog w) A.in1 (b args) (λfin s'=>match fin with | .done f=>Q f s' | .again c'=>c'.quiet=true/\dm (CA prog w) A c' Q s') td) bH s):
  dm (CA prog w) A (.call (.builtin id) args) Q s:=by
 refine j7 rfl ?_;show ai _ A.in1 (do Fc id args;again (.builtin id args)) _ s
 refine bg (C1 h (λZ td tj=>c9 ⟨GM hq _,abj hc hb ?_⟩) λZ Z x=>x);rw[HD hq args];exact tj
theorem agA{Q₁:Cy->CC->Prop}(h:Q₁ (.ref s.heap.objs.size) {s with heap:=s.heap.push {cls:=.type "bytearray",data:=.bytearray #[]}}):
  codeAny (CA prog w) A (.call (.builtin "bytearray.__new__") ⟨[.type "bytearray"],[]⟩) (wants Q₁ E) s:=by
 refine Hz ?_
 show CB _ A.in1 (do Fc "bytearray.__new__" ⟨[.type "bytearray"],[]⟩;again (.builtin "bytearray.__new__" ⟨[.type "bytearray"],[]⟩)) _ _ s
 refine wpAny_bind (C4 BA.arR (wpAny_pure ⟨GM BA.ark _,codeAny_builtin_stack BA.arB rfl λp st=>?_⟩));rw[HD BA.ark _];have at6:=BA.sub;have atw:=BA.arD;obtain⟨hp,g,d,tk,os⟩:=s;simp only[atw]
 wp_walk
 exact h
end
section
theorem iz{c:Bool}{a b:Sem α}{Q:α->CC->Prop}(hc:c=false)(h:ai M A b Q s):ai M A (if c=true then a else b) Q s:=by subst hc;exact h
theorem aag{Q:Bool->CC->Prop}(hT:s.TypeIs self "bytearray")(h:Q false s):CB M A (Ka self) Q E s:=by
 have hl:typeLookup (.type "bytearray") "__release_buffer__"=pure (some (.builtin "bytearray.__release_buffer__")):=by rw[Ew,Ev];kernel_rfl
 unfold Ka IH;refine wpAny_bind (wpAny_bind (DM hT hl ?_));dsimp only;refine DF (by decide+kernel) ?_
 rw[show("bytearray.__release_buffer__".dropRight ("__release_buffer__".length+1))="bytearray" by decide+kernel]
 exact GN hT BA.sub (wpAny_pure h)
theorem aaf{a:Cz}{b:Array UInt8}{Q:Bool->CC->Prop}(ho:s.heap.get? a=some ob)(hd:ob.data=.bytearray b 0)(h:Q false s):
  ai M A (IF (.ref a) <||> (do return(<-IG (.ref a))>0)) Q s:=by
 refine bv (aim ?_);show ai M A (do return decide ((<-IG (.ref a))>0)) Q s
 unfold IG;refine c8 (wpAny_bind (wpAny_bind (Gg ho ?_)));rw[hd];exact wpAny_pure (wpAny_pure h)
theorem aah{a:Cz}{b:Array UInt8}{f:Array UInt8->Array UInt8}{Q:Unit->CC->Prop}(ho:s.heap.get? a=some ob)(hd:ob.data=.bytearray b 0)(hz:(f b).size<=sizeLine)(h:Q () {s with heap:=s.heap.update a (Ho f)}):
  CB M A (M3 (.ref a) f) Q E s:=by
 show CB M A (updateBytearray a f) Q E s;unfold updateBytearray;refine wpAny_bind (Gg ho ?_);rw[hd];refine wpAny_bind (wpAny_update ho ?_);have h2:=Em (Ho f) ho (by
  obtain⟨cl,di,da,sl⟩:=ob;dsimp only at hd;clear ho;subst hd;rfl)
 refine JR h2 ?_ h;obtain⟨cl,di,da,sl⟩:=ob;dsimp only at hd;clear ho h2;subst hd
 show(if(f b).size>sizeLine then some "bytearray:memory" else none)=none
 rw[CJ (Ep.mpr hz)]
theorem ae8(hQ:∀h',(∀b o,s.heap.get? b=some o->h'.get? b=some o)->h'.get? s.heap.objs.size=some {cls:=.type "bytearray",data:=.bytearray #[]}->Q (.ref s.heap.objs.size) {s with heap:=h'}):
  ai (CA prog w) A (call (.type "bytearray") []) Q s:=by
 refine kZ (j7 rfl ?_);refine c9 ⟨II _ (by decide+kernel),abj (by decide+kernel) F.entry_type_call ?_⟩
 rw[Around.under_plain (weight_type_call_type "bytearray" [] []) rfl]
 have h1:=BA.made.notType;have h2:=BA.made.canCreate;have asS:=BA.made.made;unfold Builtin.«type.__call__»;refine iz h1 ?_;refine iz h2 ?_;refine bg (C4 BA.typeCall ?_);refine bg (C4 BA.mro ?_);refine iz rfl ?_;refine bg (C4 asS ?_);refine bg (wpAny_pure ?_)
 refine bg (Dv (FP (codeAny_mono (agA (E:=bH) (Q₁:=λv s'=>v=.ref s.heap.objs.size/\s'={s with heap:=s.heap.push {cls:=.type "bytearray",data:=.bytearray #[]}}) ⟨rfl,rfl⟩) λr td hr=>?_)))
 cases r with
 |error e=>exact hr
 |ok fl=>
  cases fl with
  |ret obj=>
   obtain⟨rfl,rfl⟩:=hr
   have hS:(s.heap.push {cls:=.type "bytearray",data:=.bytearray #[]}).get? s.heap.objs.size=some {cls:=.type "bytearray",data:=.bytearray #[]}:=DA _ rfl
   have hT:({s with heap:=s.heap.push {cls:=.type "bytearray",data:=.bytearray #[]}}:CC).TypeIs (.ref s.heap.objs.size) "bytearray":=(ae _ hS rfl)
   refine bg (GN hT BA.sub ?_);refine iz rfl ?_;refine bv (ja ?_);simp -iota only[callSpecial?];refine bg (DM hT BA.uN.lookup ?_);dsimp only;rw[BA.uN.bind];refine ja (bg (wpAny_pure (bv (kZ (abk rfl BA.uN.plain BA.arw (BA.uN.check _ _ _ _ _ _ _ _ hT (BA.arz _) ?_))))));unfold Builtin.«bytearray.__init__»;refine bg (aag hT ?_);refine iz rfl ?_;refine bg (C4 (a:= [none,none,none]) (by kernel_rfl) ?_);refine bg (wpAny_pure ?_);refine bg (wpAny_pure ?_);refine bv (aaf hS rfl ?_);refine iz rfl ?_;refine bg (aah hS rfl (by decide) ?_);refine bg (wpAny_pure ?_);refine c9 (ae _ rfl ?_);refine c9 ?_;refine iz rfl ?_;refine c9 (ae _ rfl (hQ _ (λb o e=>?_) ?_))
   ·exact(Ed _ _ (CW (Db e))).trans (C6 _ e)
   ·exact Em (Ho λZ=>#[]) hS rfl
  |_=>exact hr.elim
theorem ae0{a:Cz}{b:List UInt8}{i:Int}(ho:s.heap.get? a=some {cls:=.type "bytearray",data:=.bytearray b.toArray})(h0:0<=i)(h1:i<256)(hz:b.length<al)
  (hQ:Q .none {s with heap:=s.heap.update a (Ho (·.push i.toNat.toUInt8))}):ai (CA prog w) A (call (.builtin "bytearray.append") [.ref a,.int i t]) Q s:=by
 have hT:s.TypeIs (.ref a) "bytearray":=(ae _ ho rfl)
 refine kZ (abk rfl BA.u4.plain BA.arl (BA.u4.check _ _ _ _ _ _ _ _ hT (BA.arn _ _) ?_));unfold Builtin.«bytearray.append»;refine bg (C4 rfl ?_);dsimp only;refine bg ?_;unfold MX;refine wpAny_bind (C4 (rfl:asIndex (.int i t)=pure i) ?_);refine DF (by simp only[ET,FN];exact⟨Ee.mpr h0,IS.mpr h1⟩) ?_;refine wpAny_pure (bv ?_);unfold MY;refine bv (aaf ho rfl ?_);refine iz rfl ?_;refine c9 (bg (aah ho rfl (by rw[Array.size_push,De,fF];rw[dN] at hz;exact Ju hz) (c9 (ae _ rfl hQ))))
end
namespace BA
theorem arS:typeLookup (.type "bytearray") "__bytes__"=pure none:=by rw[Ew,Ev];kernel_rfl
theorem buffer:typeLookup (.type "bytearray") "__buffer__"=pure (some (.builtin "bytearray.__buffer__")):=by rw[Ew,Ev];kernel_rfl
theorem arT:typeLookup (.type "bytearray") "__index__"=pure none:=by rw[Ew,Ev];kernel_rfl
end BA
section
theorem afa{Q:Bool->CC->Prop}(hT:s.TypeIs self "bytearray")(h:Q true s):CB M A (IH self "__buffer__") Q E s:=by
 unfold IH;refine wpAny_bind (DM hT BA.buffer ?_);dsimp only;refine DF (by decide+kernel) ?_
 rw[show("bytearray.__buffer__".dropRight ("__buffer__".length+1))="bytearray" by decide+kernel]
 exact GN hT BA.sub h
theorem afK{a:Cz}{b:List UInt8}(ho:s.heap.get? a=some {cls:=.type "bytearray",data:=.bytearray b.toArray})(hz:b.length<=al)(hQ:∀t,Q (.bytes b.toArray t) {s with toks:=s.toks+1}):
  codeAny (CA prog w) A (.call (.builtin "bytes.__new__") ⟨[.type "bytes",.ref a],[]⟩) (wants Q E) s:=by
 refine Hz ?_
 show CB _ A.in1 (do Fc "bytes.__new__" ⟨[.type "bytes",.ref a],[]⟩;again (.builtin "bytes.__new__" ⟨[.type "bytes",.ref a],[]⟩)) _ _ s
 refine wpAny_bind (C4 (F.bm_newCall _) (wpAny_pure ⟨GM HM _,JH F.bm_entry ?_⟩));rw[HD HM _]
 have hT:s.TypeIs (.ref a) "bytearray":=(ae _ ho rfl)
 unfold Builtin.«bytes.__new__»;refine wpAny_bind (C4 rfl ?_);refine DF rfl ?_;refine wpAny_bind (C4 F.bm_sub ?_);refine DF rfl ?_;refine wpAny_bind (C4 (F.bm_bind _) ?_);refine wpAny_bind (C4 rfl ?_);refine wpAny_bind (C4 rfl ?_);refine DF rfl ?_;refine wpAny_bind (DM hT BA.arS ?_);refine wpAny_bind (wpAny_bind ?_);show CB _ _ (load a>>=_) _ _ _;refine wpAny_bind (Gg ho ?_);refine wpAny_pure (wpAny_pure ?_);refine DF rfl ?_;refine wpAny_bind (DM hT BA.arT ?_);refine GL rfl ?_
 first
  |show CB _ _ (IE "bytes.__new__" (.ref a) true>>=_) _ _ _
  |(refine wpAny_bind ?_;show CB _ _ (IE "bytes.__new__" (.ref a) true>>=_) _ _ _)
 refine wpAny_bind ?_;unfold IE;refine wpAny_bind (DM hT BA.buffer ?_);refine wpAny_bind (afa hT ?_);refine DF rfl ?_;refine wpAny_bind (DM hT BA.buffer ?_);refine wpAny_bind (aag hT ?_);refine DF rfl ?_;refine wpAny_bind ?_;unfold M0 M1;refine wpAny_bind (wpAny_bind (Gg ho ?_));refine wpAny_pure (wpAny_pure (wpAny_pure ?_));refine wpAny_bind (HC ?_);refine wpAny_bind (JS ?_ (by rw[De,fF];rw[dN] at hz;exact adx hz))
 show CB _ _ (if(Fp "bytes"==Fp "bytes")=true then _ else _) _ _ _
 refine GL (by decide) ?_
 first
  |exact wpAny_pure (hQ _)
  |exact wpAny_bind (wpAny_pure (wpAny_pure (hQ _)))
theorem afJ{a:Cz}{b:List UInt8}(ho:s.heap.get? a=some {cls:=.type "bytearray",data:=.bytearray b.toArray})(hz:b.length<=al)(hQ:∀t,Q (.bytes b.toArray t) {s with toks:=s.toks+1}):
  CB (CA prog w) A (call (.type "bytes") [.ref a]) Q E s:=by
 refine JF (Q₁:=λobj td=>td.TypeIs obj "bytes"/\Q obj td) Gp (Kf _) Kg
  (afK ho hz λt=>⟨Mj _ _ _,hQ t⟩) λobj td tj=>?_
 exact⟨tj.1,Ke obj _,MC Gp.init.lookup Gp.made (by decide) prog w A.in1 _ td ⟨tj.1,rfl,tj.2⟩⟩
end
section
theorem vo.c{s:PS}{wq:List Stmt}(h:vo vis nk (.cons s ss) wq):∃t ts,wq=t::ts/\TS vis nk s t/\vo vis nk ss ts:=(ax _ _ h.1 h.2.1 h.2.2)
theorem vo.n{wq:List Stmt}(h:vo vis nk .nil wq):wq=[]:=h
theorem TS.e{e:PE}(h:TS vis nk (.expr e) st):∃v pos,st=.Expr v pos/\bM v=true/\TE vis nk e v:=(ax _ _ h.1 h.2.1 h.2.2)
theorem TS.r{e:PE}(h:TS vis nk (.ret e) st):∃v pos,st=.Return (some v) pos/\TE vis nk e v:=(bR _ _ h.1 h.2)
theorem TS.i{d:PE}{a b:tQ}(h:TS vis nk (.ifs d a b) st):∃t x y pos,st=.If t x y pos/\TE vis nk d t/\vo vis nk a x/\vo vis nk b y:=(ef _ _ _ _ h.1 h.2.1 (bE h.2.2.1 h.2.2.2))
theorem TS.f{t:List Nat}{d:PE}{b:tQ}(h:TS vis nk (.for t one d b) st):∃tg vq x pos,st=.For tg vq x [] pos:=(iP _ _ _ _ h.1)
theorem TS.a{i:Nat}{e:PE}(h:TS vis nk (.assign (.var i) e) st):∃x v p pos,st=.Assign [.Name x p] v pos/\fK vis nk [i] [x]=true/\TE vis nk e v:=(ef _ _ _ _ (h.1.trans (CH (λt=>Stmt.Assign [t] _ _) h.2.2.1)) h.2.2.2.1 h.2.1)
theorem u7.c{e:PE}{es:ub}(h:u7 vis nk (.cons e es) fs):∃f gs,fs=f::gs/\TE vis nk e f/\u7 vis nk es gs:=(ax _ _ h.1 h.2.1 h.2.2)
theorem u7.n(h:u7 vis nk .nil fs):fs=[]:=h
theorem TE.m{m:MT}{o:PE}{es:ub}{v:CD}(h:TE vis nk (.tN m o es) v):∃l fs np p,v=.Call (.Attribute l (lY m) np) fs [] p/\u7 vis nk es fs:=(nH _ _ _ _ h.1 h.2.2.2)
theorem TE.cl{es:ub}{v:CD}(h:TE vis nk (.call k es) v):∃fs np p,v=.Call (.Name (cW k) np) fs [] p/\jj k=true/\glob? nk (cW k)=true/\u7 vis nk es fs:=(ce _ _ _ h.1 h.2.1 h.2.2.1 h.2.2.2)
theorem TE.b{f:BI}{es:ub}{v:CD}(h:TE vis nk (.bi f es) v)(hf:f≠.isInt):∃fs np p,v=.Call (.Name (dH f) np) fs [] p/\glob? nk (dH f)=true/\u7 vis nk es fs:=(bZ _ _ _ h.1 h.2.1 ((h.2.2.resolve_right λq=>hf q.1).2))
end
noncomputable def ma(x:Int):List UInt8:= [(x.fdiv 256).toNat.toUInt8,(x.fmod 256).toNat.toUInt8]
def cO(xs:List Int):List UInt8:=(xs.map ma).flatten
section
variable {c:tG}{n:Nat}
theorem mu(h:tY c n vis nk ps es){f:Cy}{first:List Cy}{m:Nat}
  (S:ES c A env nk n m) (D:uX c env vis ρ B μ H s.heap) (P:s6 c s B μ tD (uc c.Γ ps m ρ H) (λvs td=>uZ f td.heap/\ai (CA c.prog c.w) A (call f (first++vs) []) Q td) bH):
  ai (CA c.prog c.w) A (callWith pos f first (backTo pos (starEach es env)) []) Q s:=
 aae (kF h.len).1 (λh x=>x.wh h) (c8 (h.sound A env ρ m B μ H s _ bH pos S D P))
theorem ajD{o:CD}{name:Str}{apos:Pos}{args:List CD}(hs:u7 vis nk ps args)(hn:fu o args.length apos pos=true)
  (h:CB M A (eval o env) (λov td=>∀pl,CB M A (getMethod ov name pl) (λfx tF=>ai M A (callWith pos fx.1 fx.2 (backTo pos (starEach args env)) []) Q tF) bH td) bH s):
  ai M A (eval (.Call (.Attribute o name apos) args [] pos) env) Q s:=by
 simp only[fu,Bool.and_eq_true,C3] at hn;obtain⟨⟨h1,h2⟩,h3⟩:=hn;obtain⟨p1,p2⟩:=kF hs;rw[arm_eval_Call,rE h1];refine bg (C1 h (λov td tj=>bv (hG ?_)) λZ Z e=>e);have yl:methodCallForm (args.length+([]:List Keyword).length) (backTo pos (starEach args env)) (backToKw pos (keywordEach [] env))=true:=by
  unfold methodCallForm;rw[p2];show(true&&true&&decide (args.length+0+0<30))=true
  simpa using h3
 have xQ:methodCallPos true o env apos pos=pure pos:=by unfold methodCallPos;simp[h2]
 unfold methodCall;rw[yl];refine bg (Dv (C1 (tj _) (λfx tF tU=>bg (C4 xQ tU)) λZ Z e=>e))
theorem Inv.un(I:Inv prog w B U μ H h){p:Nat}{a:Cz}{b:List UInt8}(ha:μ[p]?=some a)(hb:H[p]?=some (.un b)):
  h.get? a=some {cls:=.type "bytearray",data:=.bytearray b.toArray 0}/\b.length<=al:=by
 (obtain⟨ob,g1,zq2,_⟩:=I.objs p a _ ha hb;obtain⟨rfl,g2⟩:=zq2);exact⟨g1,g2⟩
theorem aac{Q:Flow->CC->Prop}{o a:PE}{e:CD}{b:List UInt8}{i:Int}
  (K:tW c n) (T:FE c U0 A env nk n) (F:FS true c.prog c.w U0 env vis ρ B μ H U s.heap) (G:uk c.prog c.w B) (ht:TE vis nk (.tN .append o (.cons a .nil)) (.Call (.Attribute l "append" np) [e] [] p))
  (h1:ev c.Γ o 4 ρ H=.ok (.ref q) H) (h2:ev c.Γ a 4 ρ H=.ok (.int i) H) (hb:H[q]?=some (.un b)) (h0:0<=i) (ate:i<256) (hz:b.length<al)
  (k:∀B' th h' t',B.StaysIn B'->Pre μ th->FS true c.prog c.w U0 env vis ρ B' th (H.set q (.un (b++[i.toNat.toUInt8]))) U h'->Q .next {s with heap:=h',toks:=t'}):
  ai (CA c.prog c.w) A (EP (.Expr (.Call (.Attribute l "append" np) [e] [] p) pos) env) Q s:=by
 have yp:=jD ht rfl pos.line env none;refine aeX ?_ (by unfold interactive;rw[T.kind];rfl) yp;have hn:fu l 1 np p=true:=ht.2.1;have ho:TE vis nk o l:=ht.2.2.1;have ha:TE vis nk a e:=ht.2.2.2.2.1;clear ht;have S:=T.es F;have D:=cL F G;refine ajD (ps:=.cons _ .nil) ⟨rfl,ha,rfl⟩ hn ((cG K.CO K.NO K.LR K.ZR ho U).v A env ρ 4 B μ H s _ bH S D ?_);rw[show(c.tz U).Γ=c.Γ from rfl,h1];intro B' th h' t' ov hB tJ I v pl;obtain⟨x,e,hx⟩:=(v.r);clear v;subst e;obtain⟨g1,g2⟩:=I.un hx hb;refine Gd (ae _ g1 rfl) BA.arx BA.u4 BA.arv (λb e=>by cases e;exact(ae _ g1 rfl)) ?_;have D':uX (c.tz U) env vis ρ B' th H h':=D.step hB tJ I;refine mu (.cons (cG K.CO K.NO K.LR K.ZR ha U) .nil) S D' ?_;dsimp only[E2.cons,E2.nil];rw[show(c.tz U).Γ=c.Γ from rfl,h2];intro B2 vF h2 t2 tf uW ud I2 vs;refine⟨.inl ⟨_,rfl⟩,?_⟩;refine o_ea vs.o1 λcv e v1=>o_e v1.i λt e'=>?_;clear vs v1;subst e';subst e;obtain⟨g3,g4⟩:=I2.un (ud _ _ hx) hb;refine ae0 g3 h0 ate hz ?_;have e2:=Em (Ho (·.push i.toNat.toUInt8)) g3 rfl;refine k B2 vF _ t2 (λZ Z e=>uW _ _ (hB _ _ e)) (tJ.trans ud) (F.step (λZ Z e=>uW _ _ (hB _ _ e)) (tJ.trans ud) (I2.upd (ud _ _ hx) (Gr ..).extBut e2 ⟨?_,?_⟩ ?_))
 ·exact CH (λx=>({cls:=.type "bytearray",data:=.bytearray x}:Obj)) (Ig ..)
 ·simp;exact Ju hz
 ·rintro⟨vs,q⟩;cases q
theorem aci{p:Nat}{xs:List Int}(h:az H p=some (xs.map .int))(j:Nat):aS H (.ref p) j=some ((xs[j]?).map .int):=by unfold aS;dsimp only;rw[h];simp
theorem akd(xs:List Int):(cO xs).length=2*xs.length:=by
 induction xs with
 |nil=>rfl
 |cons x xs ih=>unfold cO at ih⊢;rw[DS,HY,List.length_append,ih,Dc];show 2+_=_;exact anf
theorem ake{xs:List Int}{x:Int}(h:xs[j]?=some x):cO (xs.take (j+1))=cO (xs.take j)++ma x:=by unfold cO;rw[EW,h];simp
theorem ka{i m:Nat}(h:ρ[i]?=some v)(h1:v≠.undef)(h2:∀k,v≠.fn k):ev Γ (.var i) m ρ H=.ok v H:=by rw[E1.var];rw[h];clear h;cases v<;>first |rfl |exact CI rfl h1 |exact CI rfl (h2 _)
theorem ae7{Q:Flow->CC->Prop}{p:Nat}{d:AV}{xs:List Int}
  (K:tW c n) (T:FE c U0 A env nk n) (F:FS true c.prog c.w U0 env vis [.ref p,d,.ref q,.undef] B μ H U s.heap) (G:uk c.prog c.w B) (uq:bQ vis=true) (vO:c.Γ.hd=false)
  (ts:TS vis nk (.for [3] true (.var 0) (.cons (.expr (.tN .append (.var 2) (.cons (.bin .fdiv (.var 3) (.s7 256)) .nil))) (.cons (.expr (.tN .append (.var 2) (.cons (.bin .mod (.var 3) (.s7 256)) .nil))) .nil))) (.For tg vq body [] pos))
  (hp:az H p=some (xs.map .int)) (hq:H[q]?=some (.un [])) (um:p≠q) (hr:∀x∈xs,0<=x/\x<65536) (hz:2*xs.length<=al)
  (k:∀B' th U' h' t' v,B.StaysIn B'->Pre μ th->FS true c.prog c.w U0 env vis [.ref p,d,.ref q,v] B' th (H.set q (.un (cO xs))) U' h'->Q .next {s with heap:=h',toks:=t'}):
  ai (CA c.prog c.w) A (EP (.For tg vq body [] pos) env) Q s:=by
 have hh:A.handled=none:=by
  rcases T.uU with⟨_,h⟩ |⟨h,_⟩
  ·exact h
  ·rw[vO] at h;cases h
 have hx:cZ true tg=some (cE true tg):=ts.2.1;have hl:([3]:List Nat).length=(cE true tg).length:=ts.2.2.1;have xY:fK vis nk [3] (cE true tg)=true:=ts.2.2.2.1;have ti:TE vis nk (.var 0) vq:=ts.2.2.2.2.1;have tb:vo vis nk (.cons (.expr (.tN .append (.var 2) (.cons (.bin .fdiv (.var 3) (.s7 256)) .nil))) (.cons (.expr (.tN .append (.var 2) (.cons (.bin .mod (.var 3) (.s7 256)) .nil))) .nil)) body:=ts.2.2.2.2.2;clear ts;(revert hx hl xY;refine gn (cE true tg) λxs' hx hl xY=>?_);have A2:∀i x,(i,x)∈[3].zip xs'->(i,x)∈vis/\iZ true env x:=λi x hm=>⟨(jd xY hm).1,T.slot (jd xY hm).2⟩;refine aeY ((cG K.CO K.NO K.LR K.ZR ti U).v A env _ 4 B μ H s _ bH (T.es F) (cL F G) ?_) (λx=>rH ti env x);rw[show(c.tz U).Γ=c.Γ from rfl,ka rfl (by simp) (by simp)];intro B' th h' t' x9 hB tJ I w;have F':FS true c.prog c.w U0 env vis [.ref p,d,.ref q,.undef] B' th H U h':=F.step hB tJ I;refine oE (c:=c.tz U) (s:={s with heap:=h',toks:=t'}) I w (aci hp 0) λo xI=>?_;have nB:=F'.inv.xh;have nM:=F'.inv.nextM;have nU:=F'.inv.wy;dsimp only at xI nB nM nU⊢;(revert xI nB nM nU;refine cX h'.objs.size λit hit xI nB nM nU=>?_);obtain⟨oI,eI,fI⟩:=(xI.obj);have xq:∀p,¬U0 it p:=λp hu=>nU p (F'.keep _ _ hu);have zG:it≠env.locals:=by obtain⟨o,es,ep,g1,_⟩:=F'.own.dict;exact λq=>nU o (q▸g1)
 have vT:∀x b,env.cells.lookup x=some b->env.kindOf x=some .cell->b≠it:=λx b e1 e2=>by obtain⟨o,v,g4,_⟩:=F'.own.cell rfl x b e1 e2;exact λq=>nU o (q▸g4)
 have ur:∀{h:CF}{o:Obj},h.get? it=some o->d6 o->∀o,h.get? it=some o->∀v,o.data≠.cell v:=λe ⟨vs,f⟩ o e2 v q=>by rw[e] at e2;cases e2;rw[f] at q;cases q
 have F0:FS true c.prog c.w U0 env vis [.ref p,d,.ref q,.undef] B' th H (U.put it oI) (h'.push o):=(F'.step (λZ Z e=>e) (Pre.refl _) (F'.inv.push o)).wA zG (ur eI fI) nB nM xq (λZ Z Z e=>e) eI;have atA:H.set q (.un (cO (xs.take 0)))=H:=by
  obtain⟨h1,h2⟩:=List.getElem?_eq_some_iff.mp hq;rw[Ef];exact HX λi=>by
   rw[List.getElem?_set]
   split
   ·rename_i e;subst e;rw[hq];rfl
   ·rfl
 have hgl:∀b,az (H.set q (.un b)) p=some (xs.map .int):=λb=>by unfold az at hp⊢;rw[DH (Dn um)];exact hp
 have hql:q<H.length:=(List.getElem?_eq_some_iff.mp hq).1;refine ae4 (λm td=>∃j v xK xl yG oI,m+j=xs.length+1/\FS true c.prog c.w U0 env vis [.ref p,d,.ref q,v] xK xl (H.set q (.un (cO (xs.take j)))) yG td.heap/\uk c.prog c.w xK/\wn xK xl (.ref p) j td.heap it/\yG it oI/\d6 oI/\
   B.StaysIn xK/\Pre μ xl/\∃tj uy,td={s with heap:=tj,toks:=uy}) ?_ (xs.length+1)
  (dT 0 (.undef) B' th _ oI (dv rfl (by rw[atA];exact F0) (G.mono hB) xI (tm.tV _ _ _) fI (aip hB tJ _ _ rfl)))
 intro m td N K1 hN k0 k1 xZ;(revert xZ;refine r_eeeeee λj v xK xl yG oI=>r_aaaaaa λhm F G xI wI fI=>r_aaee λarY arI tj uy zq16=>?_;subst zq16);obtain⟨nB,nM,_⟩:=F.inv.us it oI wI;have eI:=F.inv.at_ wI (.inl fI);refine mr (c:=c.tz yG) hh F.inv xI (aci (hgl _) j) (λv' cv h2 t2 e hv x' hs=>?_) λh2 e hs=>?_
 ·(obtain⟨x,ex,zq2⟩:=Ek.mp e;clear e;subst zq2);refine k1 _ _ ?_;obtain⟨r0,r1⟩:=hr x (DT ex);have hj:j<xs.length:=(List.getElem?_eq_some_iff.mp ex).1;obtain⟨zg,Ae,Ai⟩:=(x'.obj);have F1:=(F.wA zG (ur eI fI) nB nM xq hs Ae).up (tm.tV _ _ _);have T':=T.put (o:=zg) xq zG vT;refine rl (s:={s with heap:=h2,toks:=t2}) x' ?_;refine uA (s:={s with heap:=h2,toks:=t2}) (ρ':= [.ref p,d,.ref q,.int x]) true (.inr hh) hx hl rfl hv F1 T'.off uq T'.kind A2 λh3 U3 t3 F3=>?_;obtain⟨_,_,rfl,AA,tbr⟩:=(tb.c);obtain⟨_,_,rfl,tb2,tb3⟩:=(tbr.c);obtain rfl:=tb3.n;obtain⟨_,_,rfl,_,te1⟩:=(AA.e);obtain⟨_,_,rfl,_,te2⟩:=(tb2.e);obtain⟨_,_,_,_,rfl,asI⟩:=(te1.m);obtain⟨_,_,rfl,_,zF⟩:=(asI.c);clear asI AA;obtain rfl:=zF.n;obtain⟨_,_,_,_,rfl,asJ⟩:=(te2.m);obtain⟨_,_,rfl,_,zF⟩:=(asJ.c);clear asJ tb2 tbr tb k1;obtain rfl:=zF.n;have hlen:(cO (xs.take j)).length=2*j:=by rw[akd,Dg];exact CH (2*·) (ED (CN hj))
  have atg:(H.set q (.un (cO (xs.take j))))[q]?=some (.un (cO (xs.take j))):=by rw[EV hql]
  refine hZ (aac (s:={s with heap:=h3,toks:=t3}) K T' F3 G te1 (ka rfl (by simp) (by simp)) (i:=x.fdiv 256) ?_ atg ?_ ?_ (ang hz hm hj hlen) λB4 y5 h4 t4 wQ vm F4=>?_)
  ·rw[E1.bin];rw[ka (v:=.int x) rfl (by simp) (by simp)];rfl
  ·rw[GQ _ (by decide)];exact Ko r0 (by decide)
  ·rw[GQ _ (by decide)];exact Int.ediv_lt_of_lt_mul (by decide) (Kt r1 (by decide))
  rw[Ii] at F4;refine hZ (aac (s:={s with heap:=h4,toks:=t4}) K T' F4 (G.mono wQ) te2 (ka rfl (by simp) (by simp)) (i:=x.fmod 256) ?_ (EV hql) ?_ ?_ (by rw[List.length_append];simp;exact anh hz hm hj hlen) λB5 y6 h5 t5 xn vB F5=>?_)
  ·rw[E1.bin];rw[ka (v:=.int x) rfl (by simp) (by simp)];rfl
  ·rw[GR _ (by decide)];exact ani
  ·rw[GR _ (by decide)];exact Kp _ (by decide)
  rw[Ii,List.append_assoc] at F5;have w5:=F5.keep _ _ (tm.tV U0 it zg);have e5:=F5.inv.at_ w5 (.inl Ai);refine c8 (Fe ⟨rfl,hN (m-1) _ (anj hm hj) (nG (j+1) (.int x) B5 (ce y6 U3 zg (ank hm hj) ?_ ((G.mono wQ).mono xn) (ain (x'.at_ (λo e=>by rw[Ae] at e;cases e;exact e5) (λZ Z e=>xn _ _ (wQ _ _ e)) (vm.trans vB)) w5 Ai (λZ Z e=>xn _ _ (wQ _ _ (arY _ _ e))) (arI.trans (vm.trans vB)) _ (i_e _ rfl))))⟩);rw[ake ex];exact F5.weak λb p hu=>tm.tO (λq=>xq p (q▸hu)) hu
 ·have hj:xs.length<=j:=by simpa using(Option.map_eq_none_iff.mp e)
  have:=k xK xl _ h2 uy v arY arI (by
   have:=F.arX zG (ur eI fI) nB nM xq hs
   rwa [EB hj] at this)
  exact k0 _ this
end
variable {c:tG}{a:Cz}{n m i:Nat}{e:CD}{b:List UInt8}{r:Bool}{f:Cy}
section
theorem qr{np:Nat}{ps:List Str}{Q:Flow->CC->Prop}(D:vg B a fd body ps)(F:vL np nv vis ps fd.scope.names)
  (I:Inv c.prog c.w B c.U μ H s.heap) (wG:B.NoLimit) (hv:tD B μ vs tf) (hl:vs.length=np) (xa:A.depth<recursionLimit)
  (h:∀tj uy,Off true c.U (CU fd s.heap.objs.size a)->FS true c.prog c.w c.U (CU fd s.heap.objs.size a) vis (vs++CK (nv-np) .undef) B μ H (c.U.call tj s.heap.objs.size (cellsFrom (s.heap.objs.size+1) fd.scope.names [])) tj->
   ai (CA c.prog c.w) (A.deeper (CU fd s.heap.objs.size a)) (Dw body (CU fd s.heap.objs.size a)) (λf s'=>Q (.ret (match f with | .ret v=>v |_=>.none)) s') {s with heap:=tj,toks:=uy})
  (ux:fd.closure=[]):dm (CA c.prog c.w) A (.call (.ref a) ⟨tf,[]⟩) Q s:=by
 obtain⟨o,ho,hd⟩:=(D.ob);have vT:ps.length=tf.length:=by rw[hv.length,hl,F.len]
 refine agw xa (I.base _ _ ho) hd (wG.keeps λb o e=>I.base b o e) (D.code.keeps λb o e=>I.base b o e) D.body (lB D.args D.dflt F.nodup vT) ux (λx hx=>?_) (λtd X=>?_) D.co D.gen D.kind
 ·obtain⟨n,v⟩:=x;obtain⟨i,hi⟩:=Ea.mp (Fy hx).1;rcases(F.kind i n (F.par i n hi)).2 with q |q
  ·exact .inl q
  ·exact .inr ⟨q,mZ (.inr (mem_of_lookup q))⟩
 ·(obtain⟨tj,uy,zq2,h1,h2⟩:=abK (a:=a) I F D.kind hv hl X;clear X;subst zq2);exact h tj uy h1 h2
theorem pj{ps:PS}{rest:List Stmt}{Q:Flow->CC->Prop}(K:tW c n/\tW c.tK n)(uq:bQ vis=true)(ts:TS vis nk ps st)(T:FE c U0 A env nk n)(F:FS true c.prog c.w U0 env vis ρ B μ H U s.heap)(G:uk c.prog c.w B)
  (e:exec c.Γ ps ρ H=.ok (.next ρ') H') (k:∀B' th U' h' t',B.StaysIn B'->Pre μ th->uk c.prog c.w B'->FS true c.prog c.w U0 env vis ρ' B' th H' U' h'->ai (CA c.prog c.w) A (Dw rest env) Q {s with heap:=h',toks:=t'}):
  ai (CA c.prog c.w) A (Dw (st::rest) env) Q s:=by
 refine hZ (c8 (aeh K.1 K.2 uq ts U0 A env ρ B μ H U s _ bH T F G ?_));rw[e];exact λB' th U' h' t' hB tJ F'=>k B' th U' h' t' hB tJ (G.mono hB) F'
theorem N10{p:Nat}{d:Int}{xs:List Int}(hS:gA A c.U c.fs)(hd:A.depth+(n+1)<480)(hu:A.units+60*(n+1)<=8950)(hh:A.handled=none)
  (I:Inv c.prog c.w B c.U μ H s.heap) (G:uk c.prog c.w B) (hv:tD B μ [.ref p,.int d] tf) (hp:az H p=some (xs.map .int)) (hd8:8<d) (hr:∀x∈xs,0<=x/\x<65536) (hz:2*xs.length<=al)
  (P:s6 c s B μ VR (.ok (.bytes (cO xs)) (H++[.un (cO xs)])) Q bH):ai (CA c.prog c.w) A (call (.ref (bK 10)) tf) Q s:=by
 refine o_eeeeaa (G.wW 10 2 4 qk rfl (by decide) (by decide) (by decide)) λfd body ps vis D ux=>r_a λF wz=>?_;refine kZ (qr D F I G.nolimit hv rfl (by show A.depth<1000;exact CM (Nat.lt_of_le_of_lt (Nat.le_add_right ..) hd) (by decide)) (λtj uy uH FS=>?_) ux);have K:=mK n (c.inner (CU fd s.heap.objs.size (bK 10)) n) rfl;have T:=lE D F hS hd hu hh uH;(revert uH FS K T;refine gn (CU fd s.heap.objs.size (bK 10)) λenv uH FS K T=>?_);refine q9 λQF kQ=>?_;obtain⟨_,_,rfl,t1,wz⟩:=wz.c;obtain⟨_,_,rfl,t2,wz⟩:=wz.c;obtain⟨_,_,rfl,t3,wz⟩:=wz.c;obtain⟨_,_,rfl,t4,wz⟩:=wz.c;obtain rfl:=wz.n;have e1:exec ⟨run n,100000,false⟩ (.ifs (.cmp (.var 1) .le (.s7 8)) (.cons (.ret (.bi .bytes (.cons (.var 0) .nil))) .nil) .nil) [.ref p,.int d,.undef,.undef] H=.ok (.next [.ref p,.int d,.undef,.undef]) H:=by
  have hle:decide (d<=8)=false:=Dx (IS.mpr hd8);show bN .bad (.bool (decide (d<=8))) (λr=>if r then _ else _)=_
  rw[hle];rfl
 refine pj (c:=c.inner env n) K F.ok t1 T FS G e1 λB1 vc U1 h1 k1 wP wg G1 F1=>?_;obtain⟨x,v,px,pos,rfl,xY,tv⟩:=(t2.a);obtain⟨_,_,_,rfl,hg,tn⟩:=tv.b (by decide);clear t2;obtain rfl:=tn.n;obtain⟨m1,m2⟩:=jd xY (show(2,x)∈[2].zip [x] from GV _);refine hZ ?_;rw[My _ _ _ _ _ (jD tv rfl _ _ _)];have S1:=T.es F1;have D1:=cL F1 G1;refine bv (hG (bv ?_));refine o_eeaaaa G1.ns λg b n1 n2 Z Z=>r_aaa λZ Z n7 Z=>?_;refine lk rfl (eg (c:=(c.inner env n).tz U1) S1 D1 hg (ax g b n1 n2 (.inr (n7 .bytearray))) ?_);refine mu (c:=(c.inner env n).tz U1) .nil S1 D1 ?_;rw[E2.nil];intro B2 vF h2 k2 aso uW ud I2 vs2;have e:=vs2.n;clear vs2;subst e;refine⟨.inr (.inl ⟨_,rfl⟩),ae8 λh3 BV he3=>?_⟩;have F2:=F1.step uW ud I2;have I3:=F2.inv.xw (ao:=.un []) BV (Nat.le_refl _) he3 ⟨rfl,DY _⟩ (by rintro⟨vs,q⟩;cases q);have F3:=F2.step (λZ Z e=>e) (Pre.snoc _ _) I3;refine bg (DN (bg (Iw (jL (c:=c.inner env n) F3 T.off F.ok T.kind m1 (T.slot m2) (VR.xk (.ref H.length _ (kt F2.inv.len))) λh4 U4 k4 F4 Z=>c9 ?_))));have G4:=(G1.mono uW);refine hZ ?_;obtain⟨_,_,_,_,rfl⟩:=(t3.f);have yr:p<H.length:=by
  unfold az at hp
  cases q:H[p]? with
  |none=>rw[q] at hp;cases hp
  |some o=>exact(List.getElem?_eq_some_iff.mp q).1
 refine ae7 (c:=c.inner env n) (H:=H++[.un []]) (q:=H.length) (d:=.int d) K.1 T F4 G4 F.ok rfl t3 ?_ ?_ (CP yr) hr hz λB5 y6 U5 h5 k5 v5 xn vB F5=>?_
 ·unfold az at hp⊢;rw[D6 yr];exact hp
 ·simp
 rw[show(H++[AO.un []]).set H.length (.un (cO xs))=H++[.un (cO xs)] by simp] at F5;have G5:=G4.mono xn;obtain⟨_,_,rfl,tv⟩:=(t4.r);obtain⟨_,_,_,rfl,hg,tn⟩:=tv.b (by decide);obtain⟨_,_,rfl,ta,tn⟩:=tn.c;clear tv t4 D wz;obtain rfl:=tn.n;have S5:=T.es F5;have D5:=cL F5 G5;refine o_eeaaaa G5.ns λg b n1 n2 Z Z=>r_aaa λZ Z n7 Z=>?_;refine hZ (ph (lk rfl (eg (c:=(c.inner env n).tz U5) S5 D5 hg (ax g b n1 n2 (.inr (n7 .bytes))) ?_)));refine mu (c:=(c.inner env n).tz U5) (.cons (cG K.1.CO K.1.NO K.1.LR K.1.ZR ta U5) .nil) S5 D5 ?_;dsimp only[E2.cons,E2.nil];rw[ka (v:=.ref H.length) rfl (by simp) (by simp)];intro B6 Bb h6 k6 at0 Al yw I6 vs6;refine⟨.inr (.inl ⟨_,rfl⟩),?_⟩;refine o_ea vs6.o1 λcv e v1=>o_ea v1.r λa e' ha=>?_;clear vs6 v1;subst e';subst e;obtain⟨g1,g2⟩:=I6.un (b:=cO xs) ha (by simp);refine c8 (afJ g1 g2 λt=>kQ _ _ (ae _ rfl ?_));exact P B6 Bb h6 (k6+1) _ (λZ Z e=>Al _ _ (xn _ _ (uW _ _ (wP _ _ e)))) (wg.trans (ud.trans ((Pre.snoc _ _).trans (vB.trans yw)))) (I6.less F5.keep) (.bytes _ _ g2)
end
noncomputable def fi:Nat->tQ->tQ
 |k+1,.cons s ss=>.cons s (fi k ss)
 |_,_=>.nil
noncomputable def fY:Nat->tQ->tQ
 |k+1,.cons _ ss=>fY k ss
 |_,ss=>ss
noncomputable def nP:PE:=.tN .join (.s9 [10]) (.cons (.var 3) .nil)
noncomputable def mN:ub:=.cons (.call 8 (.cons (.attr (.var 0) 5) .nil)) (.cons (.attr (.var 0) 4) .nil)
theorem TE.bn{o:zk}{a b:PE}{v:CD}(h:TE vis nk (.bin o a b) v):∃l r pos,v=.BinOp l (ml o) r pos/\TE vis nk a l/\TE vis nk b r:=(bZ _ _ _ h.1 h.2.1 h.2.2)
structure W18(n:Nat)(ua:AV)(H:AH)(bs:List UInt8)(H':AH):Prop where
 it:∃ρ H1 hd p d xs H2,CE ⟨run n,100000,false⟩ (fi 7 jg) ([ua]++CK 5 .undef) H=.ok (.next ρ) H1/\ev ⟨run n,100000,false⟩ nP 4 ρ H1=.ok (.bytes hd) H1/\
  uc ⟨run n,100000,false⟩ mN 4 ρ H1=.ok [.ref p,.int d] H2/\az H2 p=some (xs.map .int)/\8<d/\(∀x∈xs,0<=x/\x<65536)/\2*xs.length<=al/\bs=hd++cO xs/\bs.length<=al/\H'=H2++[.un (cO xs)]
section
theorem pk{U0:tm}{env:Env}{vis:aN}{nk:aP}{Q:Flow->CC->Prop}{rest:List Stmt}(K:tW c n/\tW c.tK n)(uq:bQ vis=true)(T:FE c U0 A env nk n):
  ∀{ss:tQ}{wq:List Stmt}{ρ ρ':aB}{B:CF}{μ:List Cz}{H H':AH}{U:tm}{s:CC},vo vis nk ss wq->FS true c.prog c.w U0 env vis ρ B μ H U s.heap->uk c.prog c.w B->
   CE c.Γ ss ρ H=.ok (.next ρ') H'->(∀B' th U' h' t',B.StaysIn B'->Pre μ th->uk c.prog c.w B'->FS true c.prog c.w U0 env vis ρ' B' th H' U' h'->ai (CA c.prog c.w) A (Dw rest env) Q {s with heap:=h',toks:=t'})->
   ai (CA c.prog c.w) A (Dw (wq++rest) env) Q s
 | .nil,wq,ρ,ρ',B,μ,H,H',U,s,ts,F,G,e,k=>by obtain rfl:=ts.n;cases E6.nil.symm.trans e;exact k B μ U s.heap s.toks (λZ Z e=>e) (Pre.refl _) G F
 | .cons p ss,wq,ρ,ρ',B,μ,H,H',U,s,ts,F,G,e,k=>by
  obtain⟨_,_,rfl,t1,ts⟩:=ts.c;rw[E6.cons] at e
  cases q:exec c.Γ p ρ H with
  |ok fl H1=>
   rw[q] at e
   cases fl with
   |next vd=>refine pj K uq t1 T F G q λB1 vc U1 h1 k1 wP wg G1 F1=>?_;exact pk K uq T ts F1 G1 e λB' th U' h' t' b d g f=>k B' th U' h' t' (λZ Z e=>b _ _ (wP _ _ e)) (wg.trans d) g f
   |ret v=>cases e
  |exc i H1=>rw[q] at e;cases e
  |bad=>rw[q] at e;cases e
theorem vo.split{vis:aN}{nk:aP}:∀(k:Nat){ss:tQ}{wq:List Stmt},vo vis nk ss wq->∃a b,wq=a++b/\vo vis nk (fi k ss) a/\vo vis nk (fY k ss) b
 |0,ss,wq,h=>(ax [] wq rfl (by clear h;cases ss<;>rfl) (by cases ss<;>exact h))
 |k+1,.nil,wq,h=>(ax [] wq rfl rfl h)
 |k+1,.cons s ss,wq,h=>by obtain⟨_,_,rfl,t1,ts⟩:=(h.c);(obtain⟨a,b,zq2,h1,h2⟩:=vo.split k ts;clear ts h;subst zq2);exact(ax (_::a) b rfl ⟨rfl,t1,h1⟩ h2)
theorem N18{ua:AV}{bs:List UInt8}(hS:gA A c.U c.fs)(hd:A.depth+(n+1+1)<480)(hu:A.units+60*(n+1+1)<=8950)(hh:A.handled=none)
  (I:Inv c.prog c.w B c.U μ H s.heap) (G:uk c.prog c.w B) (hv:tD B μ [ua] tf) (W:W18 (n+1) ua H bs H')
  (P:s6 c s B μ VR (.ok (.bytes bs) H') Q bH):ai (CA c.prog c.w) A (call (.ref (bK 18)) tf) Q s:=by
 refine o_eeeeee W.it λρ H1 zy p d xs=>r_eaaaaa λH2 w1 w2 w3 w4 w5=>r_aaaa λw6 w7 w8 w9 z9=>?_;refine o_eeeeaa (G.wW 18 1 6 jg rfl (by decide) (by decide) (by decide)) λfd body ps vis D ux=>r_a λF wz=>?_;refine kZ (qr D F I G.nolimit hv rfl (by show A.depth<1000;exact CM (Nat.lt_of_le_of_lt (Nat.le_add_right ..) hd) (by decide)) (λtj uy uH FS=>?_) ux);have K:=mK (n+1) (c.inner (CU fd s.heap.objs.size (bK 18)) (n+1)) rfl;have T:=lE D F hS hd hu hh uH;(revert uH FS K T;refine gn (CU fd s.heap.objs.size (bK 18)) λenv uH FS K T=>?_);refine q9 λQF kQ=>?_;obtain⟨_,_,rfl,tp,ts⟩:=wz.split 7;refine pk K F.ok T tp FS G w1 λB1 vc U1 h1 k1 wP wg G1 F1=>?_;obtain⟨_,_,rfl,t1,ts⟩:=ts.c;obtain rfl:=ts.n;obtain⟨_,_,rfl,tv⟩:=(t1.r);have S1:=T.es F1;have D1:=cL F1 G1;obtain⟨_,_,_,rfl,tl,tr⟩:=(tv.bn);obtain⟨_,_,_,rfl,hc,hg,ta⟩:=(tr.cl);obtain⟨_,_,rfl,zZ,ta⟩:=ta.c;obtain⟨_,_,rfl,Az,ta⟩:=ta.c;clear tr tv t1 ts D wz;obtain rfl:=ta.n;refine hZ (ph (ae2 ((cG K.1.CO K.1.NO K.1.LR K.1.ZR tl U1).v (A.deeper env) env ρ 4 B1 vc H1 _ _ bH S1 D1 ?_)));show s6 _ _ _ _ _ (ev ⟨run (n+1),100000,false⟩ nP 4 ρ H1) _ _;rw[w2];intro B2 vF h2 k2 ca uW ud I2 va;have D2:uX ((c.inner env (n+1)).tz U1) env vis ρ B2 vF H1 h2:=D1.step uW ud I2;obtain⟨g,b,n1,n2,_,n4,_⟩:=(D2.uv.ns);refine lk rfl (eg (c:=(c.inner env (n+1)).tz U1) S1 D2 hg (ax g b n1 n2 (.inl (n4 10 _ _ _ rfl (by decide)))) ?_);obtain⟨ob,Bu,g1,g2⟩:=D2.uv.fns 10 _ _ _ rfl (by decide) (by decide) (by decide);refine mu (c:=(c.inner env (n+1)).tz U1) (.cons (cG K.1.CO K.1.NO K.1.LR K.1.ZR zZ U1) (.cons (cG K.1.CO K.1.NO K.1.LR K.1.ZR Az U1) .nil)) S1 D2 ?_;show s6 _ _ _ _ _ (uc ⟨run (n+1),100000,false⟩ mN 4 ρ H1) _ _;rw[w3];intro B3 y4 h3 k3 atd vS uS I3 v3;refine⟨.inr (.inr (.inl (bZ _ ob Bu rfl (I3.base _ _ (vS _ _ g1)) g2))),?_⟩;have hA:(A.deeper env).handled=none:=hh;refine N10 (c:=(c.inner env (n+1)).tz U1) S1.xH (by have:=S1.deep;exact this) (by have:=S1.units;exact Nat.le_trans (Nat.le_trans (Nat.le_add_right _ (10*4)) (Im (show _+60<=8940+60 from this))) (by decide)) hA I3 (D2.uv.mono vS) v3 w4 w5 w6 w7 ?_;intro B4 y5 h4 k4 cb wQ vm I4 vb;refine o_ea va.y λta e hsa=>o_ea vb.y λtb e' hsb=>?_;clear va vb;subst e e';subst w8;refine adW (c:=(c.inner env (n+1)).tz U1) (o:=.add) (H:=H2++[.un (cO xs)]) (s:={s with heap:=h4,toks:=k4}) I4 (.bytes _ ta hsa) (.bytes _ tb hsb) ?_;show s6 _ _ _ _ _ (jB _ _) _ _;unfold jB;rw[CG w9];intro B5 y6 h5 k5 cv xn vB I5 v5;clear W;subst z9;exact kQ _ _ (ae _ rfl (P B5 y6 h5 k5 cv (λZ Z e=>xn _ _ (wQ _ _ (vS _ _ (uW _ _ (wP _ _ e))))) (wg.trans (ud.trans (uS.trans (vm.trans vB)))) (I5.less F1.keep) v5))
end
noncomputable abbrev sW:Str:="width"
noncomputable abbrev sH:Str:="height"
noncomputable abbrev sO:Str:="one"
noncomputable def fv:List (Str×NameKind):= [("height",.free),("width",.free),("Plane",.globalImplicit),("range",.globalImplicit)]
noncomputable def l8:Arguments:=⟨[],[],none,[],[],none,[]⟩
noncomputable def qO:PS:=.assign (.tup [2,8,7]) (.tup (.cons (.attr (.var 1) 4) (.cons (.attr (.idx (.attr (.var 1) 5) (.s7 0)) 0) (.cons (.attr (.idx (.attr (.var 1) 5) (.s7 0)) 1) .nil))))
structure wT(B:CF)(P:Cz):Prop where
 ex:∃fd a1 rest ps vis xi uT pos c,vg B (bK 30) fd (a1:: .FunctionDef "one" l8 uT [] none [] xi none "one" pos::rest) ps/\fd.closure=[]/\vL 2 11 vis ps fd.scope.names/\TS vis fd.scope.names qO a1/\
  vo vis fd.scope.names (fY 2 iF) rest/\fd.code=.ref c/\CodeHd B c P/\(3,sO)∈vis/\fd.scope.names.lookup sO=some .local/\fd.scope.names.lookup sW=some .cell/\fd.scope.names.lookup sH=some .cell/\
  xi.names=fv/\xi.kind=.function/\xi.isGenerator=false/\xi.isCoroutine=false/\vo [(0,("width":Str)),(1,("height":Str))] fv ig uT
 blt:∃g,B.Ns Df g/\B.BuiltinsAt g P
theorem wT.mono(D:wT B P)(h:B.StaysIn B'):wT B' P:=by refine o_eeeeee D.ex λfd a1 rest ps vis xi=>r_eeeaaa λuT pos c g1 g2 g3=>r_aaaa λg4 g5 g6 g7 g8=>?_;obtain⟨g,b1,b2⟩:=D.blt;exact⟨⟨fd,a1,rest,ps,vis,xi,uT,pos,c,g1.mono h,g2,g3,g4,g5,g6,g7.keeps h,g8⟩,g,b1.keeps h,b2.keeps h⟩
theorem agt{w h:Cz}(hs:sc.names=fv)(hw:env.cells.lookup sW=some w)(hh:env.cells.lookup sH=some h):closureFor sc env=pure [(sW,w),(sH,h)]:=by unfold closureFor;rw[hs];unfold fv;simp -iota only[G8,List.forIn_nil];dsimp only;unfold cellOf;rw[hh,hw];rfl
theorem rn{a:Str}{b z:α}{l:List (Str×α)}(e:((a,b)::l).lookup x=some z):(x=a/\z=b)\/l.lookup x=some z:=by
 rw[EA] at e
 cases q:x==a with
 |true=>rw[q] at e;exact .inl ⟨eq_of_beq q,(C0 e).symm⟩
 |false=>rw[q] at e;exact .inr e
theorem lk2{a b:Str}{w h z:Cz}(e:[(a,w),(b,h)].lookup x=some z):(x=a/\z=w)\/(x=b/\z=h):=by
 rcases rn e with e |e
 ·exact .inl e
 ·exact .inr ((rn e).resolve_right nofun)
theorem anY{f:Cz}{cells:List (Str×Cz)}{w h:Cz}(D:vg B f fd body [])(hn:fd.scope.names=fv)(hb:vo [(0,("width":Str)),(1,("height":Str))] fv ig body)(hc:fd.closure=[(sW,w),(sH,h)])
  (hw:cells.lookup sW=some w) (hh:cells.lookup sH=some h) (um:w≠h):wU B f cells:=by
 have l1:∀x a,fd.closure.lookup x=some a->(x=sW/\a=w)\/(x=sH/\a=h):=λx a e=>by rw[hc] at e;exact lk2 e
 refine⟨fd,body,D,by rw[hn];exact hb,λx hx=>?_,λx a e=>?_,λx=>?_,λx hx=>?_,λx y a e1 e2=>?_⟩
 ·rw[hn] at hx;unfold fv at hx;simp only[CR,DE,DG] at hx;rcases hx with rfl |rfl |rfl |rfl<;>exact λq=>nomatch q
 ·clear hc um;rcases l1 x a e with⟨rfl,rfl⟩ |⟨rfl,rfl⟩
  ·exact⟨hw,.inl rfl⟩
  ·exact⟨hh,.inr rfl⟩
 ·rw[hn];constructor
  ·intro e;unfold fv at e
   repeat (replace e:=rn e;rcases e with e |e;· first |exact .inl e.1 |exact .inr e.1 |cases e.2)
   cases e
  ·rintro(rfl |rfl)<;>rfl
 ·rw[hc];rcases hx with rfl |rfl
  ·exact⟨w,rfl⟩
  ·exact⟨h,rfl⟩
 ·clear hc;rcases l1 x a e1 with⟨rfl,rfl⟩ |⟨rfl,rfl⟩<;>rcases l1 y _ e2 with⟨rfl,q⟩ |⟨rfl,q⟩<;>first |rfl |exact CI q um |exact CI q.symm um
section
variable {Q:Flow->CC->Prop}{cc:Cz}{xi:Scope}{uT:List Stmt}
theorem aoY(T:FE c U0 A env nk n)(F:FS true c.prog c.w U0 env vis ρ B μ H U s.heap)(hP:U0 P (tabObj #[]))(wb:env.code=.ref cc)(C:CodeHd B cc P)(blt:∃g,B.Ns Df g/\B.BuiltinsAt g P)(ok:bQ vis=true)(h3:(3,sO)∈vis)
  (hO:nk.lookup sO=some .local) (hW:nk.lookup sW=some .cell) (hH:nk.lookup sH=some .cell) (n1:xi.names=fv) (n2:xi.kind=.function) (n3:xi.isGenerator=false) (n4:xi.isCoroutine=false) (tb:vo [(0,sW),(1,sH)] fv ig uT)
  (k:∀B' U' h' t' yX,B.StaysIn B'->FS true c.prog c.w (tm.put (λb p=>b≠P/\U0 b p) P (tabObj yX)) env vis (ρ.set 3 (.fn 41)) B' μ H U' h'->Q .next {s with heap:=h',toks:=t'}):
  CB (CA c.prog c.w) A (EP (.FunctionDef sO l8 uT [] none [] xi none sO pos) env) Q E s:=by
 obtain⟨g,b1,b2⟩:=blt;obtain⟨w,hw⟩:=T.cls sW (.inl hW);obtain⟨hh,BQ⟩:=T.cls sH (.inl hH);have hUP:=F.keep _ _ hP;have fP:d6 (tabObj #[]):=⟨_,rfl⟩;have eP:=F.inv.at_ hUP (.inl fP);obtain⟨nBP,nMP,_⟩:=F.inv.us _ _ hUP;have hwh:w≠hh:=λe=>by have:=F.own.apart rfl sW sH w hw (e▸BQ);exact CI this (by decide)
 have hge:Df≠P:=λe=>by obtain⟨o,es,ep,q,_⟩:=b1;rw[e,nBP] at q;cases q
 rw[exec_def,defaultsOf_eq];refine wpAny_bind (DN (wpAny_bind (Dv ?_)));refine wpAny_bind (wpAny_pure (wpAny_bind (Dv (wpAny_pure (Dv (wpAny_bind (wpAny_pure ?_)))))));refine makeFunction_K (agt n1 hw BQ) T.glob (b1.keeps F.inv.base) wb (C.keeps F.inv.base) eP trivial rfl hge (b2.keeps F.inv.base) λc' Bj doc h' tk hx zw yN yT BD=>?_
 have A1:Dz P s.heap (h'.push (fnMade sO (qualnameIn env sO sO) l8 uT xi [(sW,w),(sH,hh)] doc ((g "__name__").getD .none) c' Bj)):=λb o hb e=>C6 _ (hx b o hb e)
 have t6:s.heap.objs.size<=h'.objs.size:=Nat.le_trans zw (CN yN);have asU:P≠env.locals:=λe=>T.off.loc _ (e▸hP)
 have Bm:=C6 (fnMade sO (qualnameIn env sO sO) l8 uT xi [(sW,w),(sH,hh)] doc ((g "__name__").getD .none) c' Bj) BD
 (revert BD Bm;refine gn ((#[]:Array Cy)++#[Dp pos.line,Dp pos.col,.ref c']) λyX BD Bm=>?_);have F1:=((F.weak (U0:=λb p=>b≠P/\U0 b p) λb p x=>x.2).wA (a:=P) asU (λo e v q=>by rw[eP] at e;cases e;cases q) nBP nMP (λp x=>x.1 rfl) A1 Bm).up (tm.tV _ _ _);have f1:∀a,s.heap.objs.size<=a->a∉μ/\∀o,¬(U.put P (tabObj yX)) a o:=λa ha=>⟨λhm=>CS _ (Nat.lt_of_lt_of_le (F.inv.lt hm) ha),λo hu=>hu.elim (λz=>CS _ (Nat.lt_of_lt_of_le (F.inv.zI z.2) ha)) λz=>CS _ (Nat.lt_of_lt_of_le (Db eP) (z.1▸ha))⟩;obtain⟨c0,oc,vs,tq,ati,Ca,r⟩:=yT;cases ati;obtain⟨B1,st1,e1,I1⟩:=F1.inv.vJ (C6 _ Ca) (f1 _ zw).1 (f1 _ zw).2;obtain⟨B2,Cs,e2,I2⟩:=I1.vJ (a:=h'.objs.size) (DA _ rfl) (f1 _ t6).1 (f1 _ t6).2;have F2:=F1.step (λZ Z e=>Cs _ _ (st1 _ _ e)) (Pre.refl _) I2;have T':Off true (tm.put (λb p=>b≠P/\U0 b p) P (tabObj yX)) env:=⟨λp x=>x.elim (λz=>T.off.loc p z.2.2) λz=>asU z.1.symm,λq x a p e1 e2 z=>z.elim (λy=>T.off.cell q x a p e1 e2 y.2.2) λy=>T.off.cell q x a _ e1 e2 (y.1▸hP)⟩
 have D:vg B2 h'.objs.size (fnX sO (qualnameIn env sO sO) l8 uT xi [(sW,w),(sH,hh)] .none .none doc ((g "__name__").getD .none) none (.ref c') Bj) uT []:=⟨(ae _ e2 rfl),rfl,rfl,rfl,rfl,rfl,n2,n3,n4,(ef c' oc vs tq rfl (Cs _ _ e1) r)⟩
 have V:v4 env sO B2 μ (.fn 41) (.ref h'.objs.size):=⟨(aI _ rfl (anY D n1 tb rfl hw BQ hwh) (λx hx=>by rw[T.kinds];rcases hx with rfl |rfl<;>assumption)),by rw[T.kinds];exact hO⟩
 refine wpAny_bind (DN (wpAny_bind (Iw (jL F2 T' ok T.kind h3 (T.slot (.inl hO)) V λh2 U2 t2 F3 Z=>wpAny_pure ?_))));exact k B2 U2 h2 t2 yX (λZ Z e=>Cs _ _ (st1 _ _ e)) F3
end
theorem afL{r:R Fl}{b:Bool}(h:lz r=.ok (.bool b) H'):r=.ok (.ret (.bool b)) H':=by
 cases r with
 |ok fl H=>
  cases fl with
  |next ρ=>cases h
  |ret v=>cases h;rfl
 |exc k H=>cases h
 |bad=>cases h
theorem abt{p:PS}(h:CE Γ (.cons p ss) ρ H=.ok (.ret v) H'):(∃ρ' H1,exec Γ p ρ H=.ok (.next ρ') H1/\CE Γ ss ρ' H1=.ok (.ret v) H')\/exec Γ p ρ H=.ok (.ret v) H':=by
 rw[E6.cons] at h
 cases q:exec Γ p ρ H with
 |ok fl H=>
  rw[q] at h
  cases fl with
  |next ρ'=>exact .inl (bR _ _ rfl h)
  |ret v=>clear q;cases h;exact .inr rfl
 |exc k H=>rw[q] at h;cases h
 |bad=>rw[q] at h;cases h
section
theorem N30(hS:gA A c.U c.fs)(hd:A.depth+(n+1)<480)(hu:A.units+60*(n+1)<=8950)(hh:A.handled=none)(I:Inv c.prog c.w B c.U μ H s.heap)(G:uk c.prog c.w B)(X:wT B P)(hP:c.U P (tabObj #[]))
  (hv:tD B μ vs tf) (hl:vs.length=2) (hr:run (n+1) 30 vs H=.ok (.bool true) H') (k:∀h' t',B.StaysIn h'->(∃ps,h'.get? P=some (tabObj ps))->Q (.bool true) {s with heap:=h',toks:=t'}):CB (CA c.prog c.w) A (call (.ref (bK 30)) tf) Q E s:=by
 refine o_eeeeee X.ex λfd a1 rest ps vis xi=>r_eeeaaa λuT pos cc D ux F=>r_aaaaaa λt1 tr wb C v3 hO=>r_aaaaaa λhW hH n1 n2 n3 n4 tb=>?_;rw[sg rfl hl] at hr;replace hr:=afL hr;rcases abt hr with⟨vd,H1,e1,hr⟩ |e1
 rotate_left
 ·exfalso;change((ev ⟨run n,100000,false⟩ _ 4 _ H).bind _)=_ at e1;revert e1
  cases ev ⟨run n,100000,false⟩ (.tup (.cons (.attr (.var 1) 4) (.cons (.attr (.idx (.attr (.var 1) 5) (.s7 0)) 0) (.cons (.attr (.idx (.attr (.var 1) 5) (.s7 0)) 1) .nil)))) 4 (vs++CK (11-2) .undef) H with
  |ok v H1=>
   intro e1;revert e1;show(match bz H1 [2,8,7] false v (vs++CK (11-2) AV.undef) with
    |some ρ=>R.ok (Fl.next ρ) H1
    |none=>R.bad)=_->_
   cases bz H1 [2,8,7] false v (vs++CK (11-2) AV.undef)<;>exact nofun
  |exc=>intro e1;cases e1
  |bad=>intro e1;cases e1
 rcases abt hr with⟨Bc,H2,e2,hr⟩ |e2
 rotate_left
 ·cases e2
 cases e2;refine aaX D F I G.nolimit hv hl (by show A.depth<1000;exact CM (Nat.lt_of_le_of_lt (Nat.le_add_right ..) hd) (by decide)) (λtj uy uH FS=>?_) ux;have xy:(CU fd s.heap.objs.size (bK 30)).code=.ref cc:=wb;have K:=mK n (c.inner (CU fd s.heap.objs.size (bK 30)) n) rfl;have T:=lE D F hS hd hu hh uH;(revert uH FS K T xy;refine gn (CU fd s.heap.objs.size (bK 30)) λenv uH FS xy K T=>?_);refine Fs (aeh K.1 K.2 F.ok t1 c.U (A.deeper env) env _ B μ H _ {s with heap:=tj,toks:=uy} _ _ T FS G ?_);rw[show exec (c.inner env n).Γ qO _ H=_ from e1];intro B1 vc U1 h1 k1 wP wg F1;refine Fs (aoY (c:=c.inner env n) (s:={s with heap:=h1,toks:=k1}) T F1 hP xy (C.keeps wP) (o_ea X.blt λg b1 b2=>(ae g (b1.keeps wP) (b2.keeps wP))) F.ok v3 hO hW hH n1 n2 n3 n4 tb λB2 U2 h2 k2 yX uW F2=>?_);have T':FE (c.inner env n) (tm.put (λb p=>b≠P/\c.U b p) P (tabObj yX)) (A.deeper env) env fd.scope.names n:={T with
  top:=by
   obtain⟨yB,q1,q2,q3⟩:=T.top;refine(aI yB q1 q2 (λe he=>?_));refine o_aeeaa (q3 e he) λq4 L o q5 q6 q7=>?_;refine(jw q4 L o q5 (.inl ⟨λq=>q7 ?_,λq=>q7 ?_,q6⟩) q7)<;>
   (clear X k C F2;subst q;refine o_aaea (I.us _ _ hP) λZ Z sl g1 Z=>?_;refine o_aaea (I.us _ _ q6) λZ Z Cr g2 Z=>?_;rw[g1] at g2;exact .inl ⟨#[],(CH (λx=>(x.map Jv)) g2 |> λz=>(C0 z).symm)⟩)
  uU:=.inl ⟨rfl,hh⟩
  off:=⟨λp x=>x.elim (λz=>T.off.loc p z.2.2) λz=>T.off.loc _ (z.1▸hP),λq x a p e1 e2 z=>z.elim (λy=>T.off.cell q x a p e1 e2 y.2.2) λy=>T.off.cell q x a _ e1 e2 (y.1▸hP)⟩}
 refine sB K.1 K.2 F.ok tr _ (A.deeper env) env _ B2 vc H1 U2 {s with heap:=h2,toks:=k2} _ _ T' F2 ((G.mono wP).mono uW) ?_;rw[show CE (c.inner env n).Γ (fY 2 iF) _ H1=_ from hr];intro B3 y4 U3 h3 k3 cv ρ3 vS uS F3 v;have e:=v.b;clear v;subst e;exact k _ _ (λZ Z e=>F3.inv.base _ _ (vS _ _ (uW _ _ (wP _ _ e)))) ⟨yX,F3.inv.at_ (F3.keep _ _ (tm.tV _ _ _)) (.inl ⟨_,rfl⟩)⟩
end
noncomputable def aeA:PE:=.not (.call 4 (.cons (.call 17 (.cons (.var 7) .nil)) (.cons (.var 3) .nil)))
noncomputable def ng:PS:=.for [8] true (.bi .range (.cons (.s7 10) .nil)) (.cons (.assign (.var 9) (.u5 (.cmp (.var 8) .gt (.s7 1)) (.call 20 (.cons (.var 1) (.cons (.bi .len (.cons (.var 7) .nil)) .nil))) (.var 8))) (.cons (.ifs (.cmp (.call 26 (.cons (.slice (.var 7) .nil (.cons (.var 9) .nil) .nil) .nil)) .ne (.call 27 (.cons (.var 6) (.cons (.var 9) .nil)))) (.cons (.ret (.ug false)) .nil) .nil) .nil))
noncomputable def kX:PE:=.call 28 (.cons (.var 1) (.cons (.var 4) (.cons (.var 3) .nil)))
noncomputable def jU:ub:=.cons (.var 1) (.cons (.var 3) .nil)
def Wr(n:Nat)(ua:AV)(H:AH)(bs:List UInt8)(H':AH):Prop:=run n 18 [ua] H=.ok (.bytes bs) H'\/∃m,n=m+1+1/\W18 (m+1) ua H bs H'
structure xJ(B:CF):Prop where
 ex:∃fd a zj args ps vis np cp bp rp,vg B (bK 31) fd (a++[.Return (some (.BoolOp .And [zj,.Call (.Name (cW 30) np) args [] cp] bp)) rp]) ps/\fd.closure=[]/\vL 1 10 vis ps fd.scope.names/\vo vis fd.scope.names (fi 8 lx) a/\
  TE vis fd.scope.names kX zj/\u7 vis fd.scope.names jU args/\glob? fd.scope.names (cW 30)=true
inductive AF(n:Nat)(wm:AV)(H:AH):Prop
 |mk {ρ:aB} {H1 H2:AH} {ua:AV} {bs:List UInt8} {H3:AH} {xU:AV} {H4 H5:AH} {ρ':aB} {H6 H7:AH} {vs:List AV} {H8 H9:AH} (w1:CE ⟨run n,100000,false⟩ (fi 6 lx) ([wm]++CK 9 .undef) H=.ok (.next ρ) H1) (w2:ev ⟨run n,100000,false⟩ aeA 4 ρ H1=.ok (.bool false) H2)
  (w3:ev ⟨run n,100000,false⟩ (.var 3) 4 ρ H2=.ok ua H2) (AB:ev ⟨run n,100000,false⟩ (.var 3) 4 ρ H4=.ok ua H4) (w4:Wr n ua H2 bs H3) (w5:run n 17 [.bytes bs] H3=.ok xU H4) (w6:run n 4 [xU,ua] H4=.ok (.bool true) H5)
  (w7:exec ⟨run n,100000,false⟩ ng ρ H5=.ok (.next ρ') H6) (w8:ev ⟨run n,100000,false⟩ kX 4 ρ' H6=.ok (.bool true) H7) (w9:uc ⟨run n,100000,false⟩ jU 4 ρ' H7=.ok vs H8) (z9:vs.length=2) (Ba:run n 30 vs H8=.ok (.bool true) H9):AF n wm H
section
theorem TE.o{e f:PE}{es:ub}{v:CD}(h:TE vis nk (.bor (.cons e (.cons f es))) v):∃fs pos,v=.BoolOp .Or fs pos/\u7 vis nk (.cons e (.cons f es)) fs:=(bR _ _ h.1 h.2.1)
theorem TE.nt{e:PE}{v:CD}(h:TE vis nk (.not e) v):∃l pos,v=.UnaryOp .Not l pos/\TE vis nk e l:=(bR _ _ h.1 h.2)
end
section
theorem aad{pes:ub}(S:ES c A env nk n m)(hh:A.handled=none)(CO:eS c n)(hc:jj k=true)(hg:glob? nk (cW k)=true)(D:uX c env vis ρ B μ H s.heap)(ht:TE vis nk pe e)(hs:tY c n vis nk pes es)
  (h:ai (CA c.prog c.w) A (eval e env) (λv td=>∃x H1 B1 vc h1 t1,td={s with heap:=h1,toks:=t1}/\B.StaysIn B1/\Pre μ vc/\VR B1 vc x v/\Inv c.prog c.w B1 c.U vc H1 h1/\
   s6 c td B1 vc VR ((uc c.Γ pes m ρ H1).bind λys H=>c.Γ.C k (x::ys) H) Q bH) s):
  ai (CA c.prog c.w) A (eval (.Call (.Name (cW k) np) (e::es) [] pos) env) Q s:=by
 simp only[jj,Bool.and_eq_true,C3] at hc;obtain⟨⟨zw,yN⟩,xN⟩:=hc;have xN:k≠30/\k≠31:=by simpa using xN
 obtain⟨⟨np',nv,bd⟩,hf⟩:=FL.mp zw;obtain⟨g,b,n1,n2,_,n4,_⟩:=(D.uv.ns);refine lk rfl (eg S D hg (ax g b n1 n2 (.inl (n4 k _ _ _ hf yN))) ?_);obtain⟨ob,fd,g1,g2⟩:=D.uv.fns k _ _ _ hf (CP (CM yN (by decide))) xN.1 xN.2;refine aae (P:=uZ (.ref (bK k))) (kF (pes:=.cons pe pes) ⟨rfl,ht,tY.len hs⟩).1 (λh x=>x.wh h) ?_;rw[ku ht];refine afb (cQ h λv td tj=>?_);(revert tj;refine r_eeeeee λx H1 B1 vc h1 t1=>r_aaaaa λzq6 wP wg vx I1 P=>?_;subst zq6);have D1:uX c env vis ρ B1 vc H1 h1:=D.step wP wg I1;refine c8 (hs.sound A env ρ m B1 vc H1 {s with heap:=h1,toks:=t1} _ bH pos S D1 (aX D1 P λys H2 B2 vF s2 cys e2 D2 vys uW ud P2=>?_));refine⟨.inr (.inr (.inl (bZ _ ob fd rfl (D2.inv.base _ _ (uW _ _ (wP _ _ g1))) g2))),c8 ?_⟩;exact CO A k (x::ys) (v::cys) B2 vF H2 s2 Q bH S.xH S.deep (by have:=S.units;exact mf this) hh D2.inv D2.uv (.cons (vx.mono uW ud) vys) (Ly yN) xN.1 xN.2 P2
theorem afc{ua:AV}{bs:List UInt8}(hS:gA A c.U c.fs)(hd:A.depth+n<480)(hu:A.units+60*n<=8950)(hh:A.handled=none)
  (hC:c.Γ.C=run n) (CO:eS c n) (I:Inv c.prog c.w B c.U μ H s.heap) (G:uk c.prog c.w B) (hv:tD B μ [ua] tf) (W:Wr n ua H bs H') (P:s6 c s B μ VR (.ok (.bytes bs) H') Q bH):ai (CA c.prog c.w) A (call (.ref (bK 18)) tf) Q s:=by
 rcases W with W |⟨m,rfl,W⟩
 ·exact c8 (CO A 18 _ tf B μ H s Q bH hS hd hu hh I G hv (by decide) (by decide) (by decide) (by rw[hC,W];exact P))
 ·exact N18 hS hd hu hh I G hv W P
section
theorem ae1{ua xU:AV}{bs:List UInt8}{H1 H2 H3:AH}{v:CD}{Q:Bool->CC->Prop}(S:ES c A env nk n m)(hA:A.handled=none)(hC:c.Γ.C=run n)(CO:eS c n)(SE:∀{pe:PE}{e:CD},TE vis nk pe e->ul c n vis nk pe e)(D:uX c env vis ρ B μ H s.heap)
  (t:TE vis nk (.not (.call 4 (.cons (.call 17 (.cons (.call 18 (.cons (.var 3) .nil)) .nil)) (.cons (.var 3) .nil)))) v) (w3:ev c.Γ (.var 3) m ρ H=.ok ua H) (AB:ev c.Γ (.var 3) m ρ H2=.ok ua H2)
  (w4:Wr n ua H bs H1) (w5:run n 17 [.bytes bs] H1=.ok xU H2) (w6:run n 4 [xU,ua] H2=.ok (.bool true) H3)
  (k:∀B' th h' t',B.StaysIn B'->Pre μ th->Inv c.prog c.w B' c.U th H3 h'->Q false {s with heap:=h',toks:=t'}):ai (CA c.prog c.w) A (isTrue v env (eval v env)) Q s:=by
 obtain⟨_,_,rfl,tn⟩:=t.nt;obtain⟨_,_,_,rfl,hc4,hg4,ta⟩:=tn.cl;obtain⟨_,_,rfl,zZ,ta⟩:=ta.c;obtain⟨_,_,rfl,Az,ta⟩:=ta.c;obtain rfl:=ta.n;have atO:=zZ;obtain⟨_,_,_,rfl,ath,atm,tb⟩:=zZ.cl;obtain⟨_,_,rfl,AA,tb⟩:=tb.c;obtain rfl:=tb.n;have atQ:=AA;obtain⟨_,_,_,rfl,at5,atn,tc⟩:=AA.cl;obtain⟨_,_,rfl,tc1,tc⟩:=tc.c;clear tb ta;obtain rfl:=tc.n;obtain⟨g,b,n1,n2,_,n4,_⟩:=(D.uv.ns);obtain⟨ob,Bu,g1,g2⟩:=D.uv.fns 18 _ _ _ rfl (by decide) (by decide) (by decide);have hu:=S.units;refine ae5 (ae6 ?_);refine aad S hA CO hc4 hg4 D atO (.cons (SE Az) .nil) ?_;refine aad S hA CO ath atm D atQ .nil ?_;refine lk rfl (eg S D atn (ax g b n1 n2 (.inl (n4 18 _ _ _ rfl (by decide)))) ?_);refine mu (.cons (SE tc1) .nil) S D ?_;refine s6.eq (abU w3) ?_;intro B3 y4 h3 k3 atd vS uS I3 v3;refine⟨.inr (.inr (.inl (bZ _ ob Bu rfl (I3.base _ _ (vS _ _ g1)) g2))),?_⟩;refine afc S.xH S.deep (mf hu) hA hC CO I3 (D.uv.mono vS) v3 w4 ?_;intro B4 y5 h4 k4 cb wQ vm I4 vb;refine(dT _ H1 B4 y5 h4 k4 (gN rfl (λZ Z e=>wQ _ _ (vS _ _ e)) (uS.trans vm) vb I4 ?_));rw[hC];refine s6.eq w5 ?_;intro B5 y6 h5 k5 cp xn vB I5 vp;refine(dT _ H2 B5 y6 h5 k5 (gN rfl (λZ Z e=>xn _ _ (wQ _ _ (vS _ _ e))) ((uS.trans vm).trans vB) vp I5 ?_));refine s6.beq (abU AB) (s6.eq w6 ?_);intro B6 Bb h6 k6 cw Al yw I6 vw;have e:=vw.b;clear vw;subst e;exact(ae true rfl (k B6 Bb h6 k6 (λZ Z e=>Al _ _ (xn _ _ (wQ _ _ (vS _ _ e)))) (((uS.trans vm).trans vB).trans yw) I6))
theorem ae3{zj:CD}{args:List CD}{cp bp:Pos}{H1 H2:AH}(S:ES c A env nk (n+1) m)(hA:A.handled=none)(SE:∀{pe:PE}{e:CD},TE vis nk pe e->ul c (n+1) vis nk pe e)(D:uX c env vis ρ B μ H s.heap)(X:wT B P)(hP:c.U P (tabObj #[]))
  (tv:TE vis nk kX zj) (ta:u7 vis nk jU args) (hg:glob? nk (cW 30)=true) (w8:ev c.Γ kX m ρ H=.ok (.bool true) H1) (w9:uc c.Γ jU m ρ H1=.ok vs H2) (z9:vs.length=2) {H3:AH} (Ba:run (n+1) 30 vs H2=.ok (.bool true) H3)
  (k:∀h' t',B.StaysIn h'->(∃ps,h'.get? P=some (tabObj ps))->Q (.bool true) {s with heap:=h',toks:=t'}):CB (CA c.prog c.w) A (eval (.BoolOp .And [zj,.Call (.Name (cW 30) np) args [] cp] bp) env) Q bH s:=by
 obtain⟨_,_,rfl,zZ,ta⟩:=ta.c;obtain⟨_,_,rfl,Az,ta⟩:=ta.c;obtain rfl:=ta.n;have hu:=S.units;refine BoolOp_and ((SE tv).v A env ρ m B μ H _ _ bH S D ?_);refine s6.eq w8 ?_;intro B8 μ8 h8 k8 cv8 Bz atF I8 v8;have e:=v8.b;clear v8;subst e;refine ER (ID ?_);have D8:uX c env vis ρ B8 μ8 H1 h8:=D.step Bz atF I8;obtain⟨g,b,n1,n2,_,n4,_⟩:=(D8.uv.ns);refine Fu rfl (eg S D8 hg (ax g b n1 n2 (.inl (n4 30 _ _ _ rfl (by decide)))) ?_);have X8:=X.mono Bz;refine jI (.cons (SE zZ) (.cons (SE Az) .nil)) S D8 ?_;refine s6.eq w9 ?_;intro B9 μ9 h9 k9 cv9 AM at8 I9 v9;refine o_eeeeee X8.ex λfd3 Z Z Z Z Z=>r_eeea λZ Z Z D30 Z=>?_;obtain⟨o3,e3,e4⟩:=D30.ob;refine⟨.inr (.inr (.inl (bZ _ o3 fd3 rfl (I9.base _ _ (AM _ _ e3)) e4))),?_⟩;exact N30 S.xH S.deep (ane hu) hA I9 (D8.uv.mono AM) (X8.mono AM) hP v9 z9 Ba λh' t' st pt=>k _ _ (λZ Z e=>st _ _ (AM _ _ (Bz _ _ e))) pt
end
theorem N31{wm:AV}{Q:Flow->CC->Prop}(hS:gA A c.U c.fs)(hd:A.depth+(n+1)<480)(hu:A.units+60*(n+1)<=8950)(hh:A.handled=none)(I:Inv c.prog c.w B c.U μ H s.heap)(G:uk c.prog c.w B)(G31:xJ B)(X:wT B P)(hP:c.U P (tabObj #[]))
  (hv:tD B μ [wm] tf) (L:AF n wm H) (hn:∃n',n=n'+1) (k:∀h' t',B.StaysIn h'->(∃ps,h'.get? P=some (tabObj ps))->Q (.ret (.bool true)) {s with heap:=h',toks:=t'}):dm (CA c.prog c.w) A (.call (.ref (bK 31)) ⟨tf,[]⟩) Q s:=by
 cases L with |@mk ρ H1 H2 ua bs H3 xU H4 H5 ρ' H6 H7 vs H8 H9 w1 w2 w3 AB w4 w5 w6 w7 w8 w9 z9 Ba=>
 refine o_eeeeee G31.ex λfd body zj args ps vis=>r_eeeeaa λnp cp bp rp D ux=>r_aaaa λF wz atR atP ato=>?_;refine qr D F I G.nolimit hv rfl (by show A.depth<1000;omega) (λtj uy uH FS=>?_) ux;have K:=mK n (c.inner (CU fd s.heap.objs.size (bK 31)) n) rfl;have T:=lE D F hS hd hu hh uH;(revert uH FS K T;refine gn (CU fd s.heap.objs.size (bK 31)) λenv uH FS K T=>?_);refine q9 λQF kQ=>?_;obtain⟨a6,a2,rfl,tp,ts⟩:=wz.split 6;rw[List.append_assoc];refine pk K F.ok T tp FS G w1 λB1 vc U1 h1 k1 wP wg G1 F1=>?_;have hA:(A.deeper env).handled=none:=hh;obtain⟨_,_,rfl,t1,ts⟩:=ts.c;obtain⟨_,_,rfl,t2,ts⟩:=ts.c;obtain rfl:=ts.n;(refine o_eeeeaa t1.i λZ Z Z Z zq4 tt=>r_a λtx ty=>?_;subst zq4);obtain rfl:=ty.n;obtain⟨_,_,rfl,to⟩:=(tt.o);obtain⟨_,_,rfl,to1,to⟩:=to.c;obtain⟨_,_,rfl,to2,to⟩:=to.c;clear tt t1 ts D wz;obtain rfl:=to.n;have S1:=T.es F1;have D1:=cL F1 G1;refine hZ (aeZ (ae9 (c8 ((cG K.1.CO K.1.NO K.1.LR K.1.ZR to1 U1).b (A.deeper env) env ρ 4 B1 vc H1 _ _ bH S1 D1 ?_))));refine s6.beq w2 ?_;rintro B2 vF h2 k2 _ uW ud I2 ⟨⟩;have D2:uX ((c.inner env n).tz U1) env vis ρ B2 vF H2 h2:=D1.step uW ud I2;refine ae1 (c:=(c.inner env n).tz U1) (m:=4) S1 hA rfl (K.1.CO U1) (λt=>cG K.1.CO K.1.NO K.1.LR K.1.ZR t U1) D2 to2 w3 AB w4 w5 w6 λB6 Bb h6 k6 Al yw I6=>?_;have zr:B1.StaysIn B6:=λZ Z e=>Al _ _ (uW _ _ e);have F6:=F1.step zr (ud.trans yw) I6;have G6:=G1.mono zr;refine c8 (Fe ?_);refine pj (c:=c.inner env n) (s:={s with heap:=h6,toks:=k6}) K F.ok t2 T F6 G6 w7 λB7 μ7 U7 h7 k7 hB7 at7 G7 F7=>?_;clear hd hu w1 w2 w3 AB w4 w5 w6 w7 G1 F1 S1 D1 I2 D2 I6 F6 G6;obtain⟨n',rfl⟩:=hn;have S7:=T.es F7;have D7:=cL F7 G7;have asx:B.StaysIn B7:=λZ Z e=>hB7 _ _ (zr _ _ (wP _ _ e));exact hZ (ph (c8 (ae3 (c:=(c.inner env (n'+1)).tz U7) (m:=4) S7 hA (λt=>cG K.1.CO K.1.NO K.1.LR K.1.ZR t U7) D7 (X.mono asx) (F7.keep _ _ hP) atR atP ato w8 w9 z9 Ba λh' t' st pt=>kQ _ _ (k _ _ (λZ Z e=>st _ _ (asx _ _ e)) pt))))
end
variable {o:Obj}
section
set_option maxRecDepth 1000000
noncomputable def jt(ok:Thread->Bool)(st:SharedT->Thread->Option (SharedT×Thread)):Nat->SharedT->Thread->Option SharedT
 |0,_,_=>none
 |n+1,s,t=>match through t with
  |true=>some s
  |false=>match ok t with
   |false=>none
   |true=>match st s t with
    |some (s',t')=>jt ok st n s' t'
    |none=>none
theorem ah7{ok:Thread->Bool}{st:SharedT->Thread->Option (SharedT×Thread)}{s:SharedT}{t:Thread}:jt ok st (n+1) s t=(match through t with
  |true=>some s
  |false=>match ok t with
   |false=>none
   |true=>match st s t with
    |some (s',t')=>jt ok st n s' t'
    |none=>none):=rfl
theorem ah8{p:Program}{xT:Nat}{ann:Option Cy}:∀{n:Nat}{s s':SharedT}{t:Thread},jt (stepOk xT ann) (stepT (denote treeTable) p w) n s t=some s'->topRun treeTable p w xT ann n s.abs t=some s'.abs:=by
 intro zi
 induction zi with
 |zero=>
 exact @λZ Z Z h=>by cases h
 |succ n ih=>
 exact @λs s' t h=>by
  rw[ah7] at h;unfold topRun
  cases ht:through t with
  |true=>rw[ht] at h;cases h;rfl
  |false=>
   rw[ht] at h
   cases hk:stepOk xT ann t with
   |false=>rw[hk] at h;cases h
   |true=>
    rw[hk] at h
    cases hs:stepT (denote treeTable) p w s t with
    |none=>rw[hs] at h;cases h
    |some r=>obtain⟨tF,u6⟩:=r;rw[hs] at h;dsimp only at h⊢;rw[stepT_spec hs];exact ih h
theorem ah6(p:Program)(w:CQ)(xT:Nat)(ann:Option Cy)(n:Nat)(s:SharedT)(t:Thread):
  jt (stepOk xT ann) (stepT (denote treeTable) p w) n s t=jt (Mi xT ann) (Mf (Mg Mh) p w) n s t:=by
 rw[No,Nk,Nl,Nm]
noncomputable def aqu(h:CF):BT:=(h.objs.toList.foldl (λ(x:BT×Nat) o=>(x.1.ins x.2 o,x.2+1)) (.nil,0)).1
end
theorem aqq{t:Sem Me}{R:Result->CC->Prop}(aty:s.asleep)
  (h:ai (CA prog w) callerA t (λfin s'=>∃f,fin=.done f/\(R (.ok f) s'/\leftWithCleanup s'.gens=false)) s):
  ∃n r s' wo,runN (denote table) prog w n s ⟨t,.builtin "claim.caller" {},default,[]⟩=.halted (outcomeOf r) s'/\
   schedN (denote table) prog w n (.single s ⟨t,.builtin "claim.caller" {},default,[]⟩)=.halted (outcomeOf r) s'/\s'.forget=wo.forget/\R r wo:=by
 have hw:Sem.wp (CA prog w) ⟨.builtin "claim.caller" {},none,none,[],none⟩ t (Sem.finPost (CA prog w) ⟨.builtin "claim.caller" {},none,none,[],none⟩ λr s'=>R r s'/\leftWithCleanup s'.gens=false) (λe Z s'=>R (.error e) s'/\leftWithCleanup s'.gens=false) default s:=by refine Ht _ _ t (λfin p' s' h'=>?_) (λZ Z Z h'=>h'.elim) default s (h _ default caller_in rfl (λZ hx=>by cases hx));obtain⟨f,rfl,hf⟩:=h';exact hf
 refine o_eeeeaa (wp_halts_full aty hw) λn r td tF hs hn=>r_a λBP hR=>?_;exact(ef n r tF td hn hs (bE BP hR))
theorem agk{c:ClaimW}{tree:List Cy->Sem Me}{free:Cz->Prop}{gens:Prop}{kept:CF->Prop}(hz:s.asleep)(wt:s.gens=#[])
  (asW:∀args,c.pre args=true->Mu args=true->
   ∀ord:List DictEntry->List DictEntry,(∀l,(ord l).Perm l)->
   ∃vs td,layAllW c.records (classAt s.heap) w.params ord args s=some (vs,td)/\
    ai (CA c.prog w) callerA (tree vs) (λfin s'=>∃f,fin=.done f/\(c.Ends s args vs td (.ok f) s'/\s'.os=s.os/\AllBare s'.gens/\kept s'.heap)) td):
  c.CallFrom (λvs=>⟨tree vs,.builtin "claim.caller" {},default,[]⟩) w free gens kept s:=by
 intro args xR yo ord yR;refine q8 λG kG=>?_;obtain⟨vs,td,vP,wb⟩:=asW args xR yo ord yR;have Ap:=layAllW_rest _ _ _ vP;refine o_eeeeaa (aqq
  (R:=λr s'=>c.Ends s args vs td r s'/\s'.os=s.os/\kept s'.heap)
  (CC.asleep_of_life Ap.2.2.2 hz)
  (cQ wb (by
   intro fin s' xZ;obtain⟨f,e,h1,h2,h3,h4⟩:=xZ;exact(aI f e ⟨h1,h2,h4⟩ (leftWithCleanup_false_of_bare h3))))) λk r s' wo yt arH=>r_aaa λBP wZ hos yn=>?_
 obtain⟨eh,_,_,eo,_⟩:=CC.forget_eq BP;have wZ:=wZ.congr eh;have yn:kept s'.heap:=by rw[eh];exact yn
 rw[<-eo] at hos;have asP:s'.heap.life=s.heap.life:=(runN_life _ _ _ yt).trans Ap.2.2.2;refine kG (aix vs td vP k _ s' (gN arH ?_ (λZ i x hx=>by rw[wt] at hx;simp at hx) yn (by rw[asP]) (CC.rest_eq hos)));clear yt arH;rcases wZ with⟨v,rfl,d1,d2,d3,d4,d5⟩ |⟨e,ob,cls,rfl,d1,d2,d3,d4,d5⟩
 ·exact .inl (gb v rfl d1 d2 d3 (λb o y Z=>d4 b o y) d5)
 ·exact .inr (ce e ob cls rfl d1 d2 (bT d3 d4 (λb o y Z=>d5 b o y)))
theorem anZ{r:OpenRow}{q:Program}{loose:List Str}{Xt:CC->Bool}{Yf:CC->α}{Ya:CQ->α}{YP:CQ->CF->Prop}{d:DefRec}{Cg:List (Str×CD)}{N:Nat}
  (left:LeftO r.prog q loose Xt Yf Ya N) (hY:∀w s,Yf s=Ya w->YP w s.heap) (hYk:∀w h h',YP w h->(∀b o,h.get? b=some o->h'.get? b=some o)->YP w h')
  (yj:defOf q r.name=some (d,Cg)) (hp:r.prog.theDef r.name=some (d.params,d.body,d.scope)) (hk:kwWritten? d.params.kwonlyargs d.params.kw_defaults=some Cg) (yT:r.records=[])
  (k1:r.wellSaid=true) (ok:(chainsOk q&&opensWell r.prog&&(frees r.toRowW&&r.within.isEmpty))=true) (hb:r.prog.bare) (hw:r.toRowW.promised)
  (call:∀(w:CQ)(xB td:CC)(mg mb:Str->Option Cy),Ground q loose r.records (λZ Z=>True) w xB mg mb td.heap->YP w td.heap->∀(a:Cz),mg r.name=some (.ref a)->∀(args:List WData)(vs:List Cy)(as:List Cz),
   r.claim.pre args=true->Mu args=true->Laid r.records w xB td args vs as->
    ai (CA r.prog w) callerA (Mk (.ref a) vs) (λv s'=>GoodWG r.claim (classAt xB.heap) (ExcName.means xB.heap) args td (.ok (.ret v)) s') td):r.Holds:=by
 refine⟨k1,hw,?_⟩;obtain⟨ok,k5⟩:=Ff.mp ok;obtain⟨hch,o1⟩:=Ff.mp ok;obtain⟨k5,k6⟩:=Ff.mp k5;obtain⟨wx,hu,ha,hap,hm⟩:=frees_parts k5;have RF0:∀h,RecFacts r.records h:=λh=>recFacts_nil yT;have hX:∀s:CC,Xt s=true->(λ(_:Str->Option Cy) h=>True/\RecFacts r.records h) (s.heap.nsMap Df) s.heap:=λs Z=>⟨trivial,RF0 _⟩;refine⟨⟨hb,o1,by show r.makers.map _=[];rw[hm];rfl⟩,hw.witness,λw=>⟨(left.behind (XP:=λZ h=>True/\RecFacts r.records h) hX hch w).1,λs' xp=>?_⟩⟩;refine o_eaaeaa ((left.behind (XP:=λZ h=>True/\RecFacts r.records h) hX hch w).2 s' xp) λxB hf hg0 s hT hz=>r_aaa λwt hg x7 y=>?_;have G0:Ground q loose [] (λZ Z=>True) w s (s.heap.nsMap Df) (s.heap.nsMap Ec) s.heap:=⟨x7.T,x7.B,x7.D,x7.TE,x7.TD,x7.W,trivial,x7.cls,x7.has,x7.apart,x7.once,x7.K⟩;have RF:=RF0 s.heap;have hT':=hT;refine(ait xB hf hg0 s hT (λn hn=>?_) (bT RF.1 RF.2.1 ?_))
 ·obtain rfl:n=r.name:=by split at hn<;>simp_all
  exact pinned_of_view hg G0 yj hp hk
 have wt:s.gens=#[]:=Array.eq_empty_of_size_eq_zero (C9.mp wt);have G:Ground q loose r.records (λZ Z=>True) w s _ _ s.heap:=RF.ground G0;refine agk hz wt λargs xR yo ord yR=>?_;obtain⟨⟨vs,td⟩,vP⟩:=FL.mp (layAllW_isSome G.has args r.args s (pre_splitW xR).1);have keeps:=layAllW_keeps _ _ _ vP;have Ap:=layAllW_rest _ _ _ vP;refine o_eaa (reads_layAllW yR _ _ _ vP yo td.heap (λZ Z e=>e)) λas AZ AW hold=>?_;have L:Laid r.records w s td args vs as:=⟨(ae ord yR vP),AZ,AW,hold,keeps,Ap.1.trans wt,Ap.2.2.1⟩;have zm:=G.keeps (λZ Z Z Z Z=>trivial) keeps;refine o_eeeeee (zm.fn yj) λa o pm cd doc dV=>r_eaaaa λkV h1 h2 h3 h4 h5=>?_;have hi:=ident_freeW hu ha hap;have Av:r.claim.within=[]:=DR.mp k6;have h:=call w s td _ _ zm (hYk _ _ _ (hY w s y) keeps) a h1 args vs as xR yo L;refine(bR vs td vP ?_);show ai _ callerA (do match<-nsGet mainNs r.name with
   |some f=>do ret (<-Mk f vs)
   |none=>unsupported "claim.caller:no-such-global") _ _
 refine bg (wpAny_nsGet zm.T.g ?_);rw[h1];refine bv (cQ h λv s' g=>c9 (ae _ rfl ?_));have z:=g.laid (c:=r.claim) wx Av hi L;exact(bY z.1 z.2.1 z.2.2 (λq=>⟨namesKept_of hT' hg r.keeps keeps g.2.1.old,noTable (by show(!r.writes||r.records.isEmpty)=true;rw[yT];simp) q⟩))
noncomputable abbrev Gt:=Cz->Option Obj
noncomputable def bu(h:CF)(P:Cz):Gt:=λa=>if a==P then none else h.get? a
noncomputable def bF(h:CF)(P:Cz):CF:=gX h (λa=>a≠P)
theorem iM(e:bu h P a=some o):(bF h P).get? a=some o:=by
 by_cases q:a=P
 ·rw[bu,CG (C9.mpr q)] at e;cases e
 ·rw[bu,CJ λx=>q (eq_of_beq x)] at e;exact cP.mpr ⟨e,q⟩
noncomputable def dY:Cy->Cz | .ref a=>a |_=>0
noncomputable def ix:Cy->Tok | .str _ t=>t | .bytes _ t=>t | .int _ t=>t |_=>0
noncomputable def aqC:Cy->Str | .str s _=>s |_=>""
noncomputable def aeN:Cy->Int | .int i _=>i |_=>0
noncomputable def aqx:Cy->Bool | .bool b=>b |_=>false
noncomputable def lJ:Data->Option (Array Cy) | .fields vs=>some vs |_=>none
noncomputable def qB:Data->Option FuncData | .func f=>some f |_=>none
noncomputable def abz:Data->Option (Array Cy×Nat) | .seq v n=>some (v,n) |_=>none
noncomputable def abx:Data->Option (Array DictEntry×Nat) | .dict v n=>some (v,n) |_=>none
noncomputable def abw:Data->Option ClassData | .cls c=>some c |_=>none
noncomputable def abZ:FuncBody->Option (List Stmt) | .stmts b=>some b |_=>none
theorem qA{x:Array Cy}(h:lJ d=some x):d=.fields x:=by cases d<;>first |(cases h;rfl) |exact nomatch (h:none=some x)
theorem agO{x:FuncData}(h:qB d=some x):d=.func x:=by cases d<;>first |(cases h;rfl) |exact nomatch (h:none=some x)
theorem agQ{x:Array Cy×Nat}(h:abz d=some x):d=.seq x.1 x.2:=by cases d<;>first |(cases h;rfl) |exact nomatch (h:none=some x)
theorem agN{x:Array DictEntry×Nat}(h:abx d=some x):d=.dict x.1 x.2:=by cases d<;>first |(cases h;rfl) |exact nomatch (h:none=some x)
theorem agM{x:ClassData}(h:abw d=some x):d=.cls x:=by cases d<;>first |(cases h;rfl) |exact nomatch (h:none=some x)
theorem ahz{d:FuncBody}{x:List Stmt}(h:abZ d=some x):d=.stmts x:=by cases d<;>first |(cases h;rfl) |exact nomatch (h:none=some x)
theorem cA{f:α->Bool}:∀{o:Option α},o.any f=true->∃a,o=some a/\f a=true
 |some a,h=>(ae a rfl h)
noncomputable def pd:List Bool->Prop
 |[]=>True
 |b::l=>b=true/\pd l
theorem eb:∀{l:List Bool},l.all id=true->pd l:=by
 intro zi
 induction zi with
 |nil=>
 exact @λZ=>trivial
 |cons Z Z ih=>
 exact @λh=>⟨(aa h).1,ih (aa h).2⟩
theorem iq{b:Bool}(h:(!b)=true):b=false:=by cases b;rfl;cases h
theorem jh{l:List α}(h:l.isEmpty=true):l=[]:=DR.mp h
noncomputable def jH(fd:FuncData):List Str:=fd.params.args.map (·.arg)
noncomputable def hF(sc:Scope):aN:=(((sc.names.filter λp=>p.2==.local||p.2==.cell).map (·.1)).zipIdx).map λp=>(p.2,p.1)
def abi(gt:Gt)(fd:FuncData):Bool:=fd.code==.ref (dY fd.code)&&(gt (dY fd.code)).any λo=>(lJ o.data).any λvs=>(vs[1]? :Option Cy).any λv=>v==.str fd.qualname (ix v)
def iJ(gt:Gt)(a:Cz)(f:FuncData->List Stmt->Bool):Bool:=(gt a).any λo=>(qB o.data).any λfd=>(abZ fd.body).any λbody=>[fd.globals==Df,fd.builtins==Ec,fd.defaults==.none,mO fd.params (jH fd),fd.scope.kind==.function,!fd.scope.isGenerator,!fd.scope.isCoroutine,fd.closure.isEmpty,abi gt fd,f fd body].all id
section
theorem agv(e:abi (bu h P) fd=true):(bF h P).CodeRec fd.code fd.qualname:=by obtain⟨o,ho,e1⟩:=cA (aa e).2;obtain⟨vs,hv,e1⟩:=cA e1;obtain⟨v,hq,e1⟩:=cA e1;exact(ef _ o vs _ (eq_of_beq (aa e).1) (iM ho) (bE (qA hv) (hq.trans (CH some (eq_of_beq e1)))))
theorem lO{f:FuncData->List Stmt->Bool}(e:iJ (bu h P) a f=true):∃fd body,vg (bF h P) a fd body (jH fd)/\fd.closure=[]/\f fd body=true:=by obtain⟨o,ho,e⟩:=cA e;obtain⟨fd,hd,e⟩:=cA e;obtain⟨body,hb,e⟩:=cA e;have e:=eb e;exact(ax fd body ⟨(ae o (iM ho) (agO hd)),ahz hb,eq_of_beq e.1,eq_of_beq e.2.1,eq_of_beq e.2.2.1,e.2.2.2.1,eq_of_beq e.2.2.2.2.1,iq e.2.2.2.2.2.1,iq e.2.2.2.2.2.2.1,agv e.2.2.2.2.2.2.2.2.1⟩ (jh e.2.2.2.2.2.2.2.1) e.2.2.2.2.2.2.2.2.2.1)
def qU(gt:Gt)(k:Nat):Bool:=(dJ k).all λp=>k==41||(k==30||(k==31||iJ gt (bK k) λfd body=>lQ p.1 p.2.1 (hF fd.scope) (jH fd) fd.scope.names&&u0 (hF fd.scope) fd.scope.names p.2.2 body))
theorem ahI{x:Nat×Nat×tQ}(e:dJ k=some x):k<42:=by
 unfold dJ at e
 by_cases h:k<42
 ·exact h
 ·rw[CJ h] at e;cases e
theorem oz{a b:Bool}(h:(a||b)=true)(n:¬a=true):b=true:=(IC.mp h).resolve_left n
theorem ahH(e:(CL 42).all (qU (bu h P))=true){np:Nat}(hk:dJ k=some (np,nv,bd))(q1:k≠41)(q2:k≠30)(q3:k≠31):FnAt (bF h P) k np nv bd:=by have e:=CV.mp e k (Fj.mpr (ahI hk));rw[qU,hk] at e;refine o_eeaa (lO (oz (oz (oz e λq=>q1 (eq_of_beq q)) λq=>q2 (eq_of_beq q)) λq=>q3 (eq_of_beq q))) λfd body D hc hf=>?_;exact(ef fd body _ _ D hc (bE (qV (aa hf).1) (t7 _ _ _ _ (aa hf).2)))
noncomputable def gW(m:Str->Option Cy)(x:Str)(a:Cz):Bool:=m x==some (.ref a)
theorem iw{m:Str->Option Cy}(e:gW m x a=true):m x=some (.ref a):=eq_of_beq e
def jZ(v:Option Cy)(b:List UInt8):Bool:=v.any λv=>v==.bytes b.toArray (ix v)
theorem lD{v:Option Cy}(e:jZ v b=true):∃t,v=some (.bytes b.toArray t):=by obtain⟨a,h,e⟩:=cA e;exact⟨_,h.trans (CH some (eq_of_beq e))⟩
noncomputable def mV(T:String)(o:Obj):Bool:=o.cls==.type T&&(o.dict.isNone&&o.slots.isEmpty)
theorem aaI{T:String}(e:mV T o=true):o=⟨.type T,none,o.data,#[]⟩:=by have h:=aa e;have h2:=aa h.2;have e1:o=⟨o.cls,o.dict,o.data,o.slots⟩:=rfl;rw[eq_of_beq h.1,Es.mp h2.1,IA.mp h2.2] at e1;exact e1
def aeJ(T:String)(gt:Gt)(a:Cz)(f:Array Cy->Bool):Bool:=(gt a).any λo=>mV T o&&(abz o.data).any λp=>p.2==0&&f p.1
theorem aqv{T:String}{f:Array Cy->Bool}(e:aeJ T (bu h P) a f=true):∃vs,(bF h P).get? a=some ⟨.type T,none,.seq vs 0,#[]⟩/\f vs=true:=by obtain⟨o,ho,e⟩:=cA e;obtain⟨p,hp,e2⟩:=cA (aa e).2;refine(ae p.1 ?_ ((aa e2).2));have:=iM ho;rw[aaI (aa e).1,agQ hp,eq_of_beq (aa e2).1] at this;exact this
def acS(gt:Gt)(v:Option Cy):Bool:=v.any λv=>v==.ref (dY v)&&aeJ "tuple" gt (dY v) λvs=>[vs.size==4,jZ vs[0]? aW,jZ vs[1]? aV,jZ vs[2]? aZ,jZ vs[3]? aU].all id
def ab8(gt:Gt)(m:Str->Option Cy):List Bool:= [jZ (m (eG 0)) jX,(m (eG 1)).any (λv=>v==.int 9 (ix v)),acS gt (m (eG 2)),gW m (eG 3) 251,gW m (eG 4) 252,gW m (eG 5) 78,
 (CL 40).all (λk=>(dJ k).isNone||gW m (cW k) (bK k)),gW m (gF 0) (bO 0),gW m (gF 1) (bO 1),gW m (cV 0) (aT 0),gW m (cV 1) (aT 1),gW m (cV 2) (aT 2)]
theorem ahS{vs:Array Cy}{a b c d:Cy}(h:vs.size=4)(h0:vs[0]?=some a)(h1:vs[1]?=some b)(h2:vs[2]?=some c)(h3:vs[3]?=some d):vs=[a,b,c,d].toArray:=
 Array.ext_getElem? λi=>match i with
  |0=>h0
  |1=>h1
  |2=>h2
  |3=>h3
  |i+4=>(JZ (om2 h)).trans rfl
theorem ajR{v:Option Cy}(e:acS (bu h P) v=true):∃cv,v=some cv/\∀μ,VR (bF h P) μ (.tup lZ) cv:=by obtain⟨cv,hv,e⟩:=cA e;obtain⟨vs,ho,e2⟩:=aqv (aa e).2;have e2:=eb e2;obtain⟨t0,h0⟩:=lD e2.2.1;obtain⟨t1,h1⟩:=lD e2.2.2.1;obtain⟨t2,h2⟩:=lD e2.2.2.2.1;obtain⟨t3,h3⟩:=lD e2.2.2.2.2.1;rw[ahS (eq_of_beq e2.1) h0 h1 h2 h3] at ho;exact(ae _ (hv.trans (CH some (eq_of_beq (aa e).1))) (λμ=>.tup _ _ _ ho (.cons (.bytes _ _ (by decide)) (.cons (.bytes _ _ (by decide)) (.cons (.bytes _ _ (by decide)) (.cons (.bytes _ _ (by decide)) .nil))))))
end
theorem jf{f:Nat->Bool}(e:(CL n).all f=true)(h:k<n):f k=true:=CV.mp e k (Fj.mpr h)
noncomputable def kh(h:CF)(P:Cz):Frag:=(CL h.objs.size).filterMap λa=>(bu h P a).map λo=>(a,o)
theorem aje{g:Gt}:∀{l:List Cz}{a:Cz}{o:Obj},(l.filterMap λa=>(g a).map λo=>(a,o)).lookup a=some o->g a=some o:=by
 intro zi
 induction zi with
 |nil=>
 exact @λa o e=>by cases e
 |cons b l ih=>
 exact @λa o e=>by
  rw[Gv] at e
  cases q:g b with
  |none=>rw[q] at e;exact ih e
  |some o'=>
   rw[q] at e;replace e:(match a==b with |true=>some o' |false=>((l.filterMap λa=>(g a).map λo=>(a,o)).lookup a))=some o:=e
   cases r:a==b with
   |true=>rw[r] at e;cases e;rw[eq_of_beq r];exact q
   |false=>rw[r] at e;exact ih e
theorem aco:(kh h P).In (bF h P):=λa o e=>iM (aje e)
def aas(K:Frag)(c n:Nat):Bool:=plainGet K (bO c) (fU n)&&(hasDictIn K (bO c)&&(findIn K (.ref (bO c)) (fU n)).any (noGet K))
noncomputable def pK:List (Nat×Nat):= [(0,0),(0,1),(0,2),(1,3),(1,4),(1,5)]
theorem aft{c:Nat}(h:mQ c n=some i):pK.contains (c,n)=true:=by
 have hc:=((ot (C:=λo=>o=some i) h).resolve_right nofun).1;have:((CL 2).all λc=>(CL 6).all λn=>(mQ c n).isNone||pK.contains (c,n))=true:=by decide
 refine oz (jf (jf this hc.1) (Nat.lt_of_lt_of_le hc.2.2 (Eg (DW 3 (Eh hc.1)) 3))) λq=>?_;rw[h] at q;cases q
def kB(K:Frag):Bool:= [pK.all (λp=>aas K p.1 p.2),(CL 2).all (λk=>keepIn K (.ref (bO k))),plainGet K 147 "most",findIn K (.ref 147) "most"==some (some (.ref 144)),isFn K (.ref 144)].all id
theorem afs{c:Nat}(e:aas K c n=true):plainGet K (bO c) (fU n)=true/\hasDictIn K (bO c)=true/\∃a,findIn K (.ref (bO c)) (fU n)=some a/\noGet K a=true:=⟨(aa e).1,(aa (aa e).2).1,cA (aa (aa e).2).2⟩
theorem aiU(e:kB K=true):arF K:=by have e:=eb e;exact⟨λc n i hi=>afs (CV.mp e.1 (c,n) (HV.mp (aft hi))),λk hk=>jf e.2.1 (Eo hk),e.2.2.1,eq_of_beq e.2.2.2.1,e.2.2.2.2.1⟩
noncomputable def rx:List Cy->Bool
 |[]=>false
 |v::r=>(v==.ref (dY v)&&rx r)||(v::r==[.type "object"]||v::r==[.type "Exception",.type "BaseException",.type "object"])
theorem ajJ(self:Cy):∀{l:List Cy},rx l=true->refuseLoop self "__setattr__" l=pure ():=by
 intro zi
 induction zi with
 |nil=>
 exact @λh=>by cases h
 |cons v r ih=>
 exact @λh=>by
  rcases IC.mp h with h |h
  ·rw[eq_of_beq (aa h).1,refuseLoop_ref];exact ih (aa h).2
  ·rcases IC.mp h with h |h
   ·rw[eq_of_beq h];exact refuse_only self rfl
   ·rw[eq_of_beq h];kernel_rfl
def sD(K:Frag)(C:Cz)(x:Str):Bool:=(clsIn K C).any λcd=>[cd.hasDict,!cd.mro.isEmpty,cd.mro.contains (.type "object"),rx cd.mro,takerIn K C x==some none,findIn K (.ref C) "__setattr__"==some (some (.builtin "object.__setattr__"))].all id
theorem aek(e:sD K C x=true):∃cd,Stores K C x cd:=by obtain⟨cd,q,e⟩:=cA e;have e:=eb e;exact⟨cd,q,e.1,iq e.2.1,e.2.2.1,λself=>ajJ self e.2.2.2.1,eq_of_beq e.2.2.2.2.1,eq_of_beq e.2.2.2.2.2.1⟩
def acV(K:Frag)(gt:Gt)(k:Nat):Bool:= [makesIn K (bO k),findIn K (.ref (bO k)) "__init__"==some (some (.ref (ju k))),typeIn K (.ref (ju k))==some (.type "function"),(CL 3).all (λi=>sD K (bO k) (bt k i)),
 iJ gt (ju k) λfd body=>[jH fd==dM k,re k body,(dM k).all λx=>fd.scope.names.lookup x==some .local].all id].all id
theorem ajW(e:acV K (bu h P) k=true):uJ K (bF h P) k:=by have e:=eb e;refine⟨e.1,eq_of_beq e.2.1,eq_of_beq e.2.2.1,λi hi=>aek (jf e.2.2.2.1 hi),?_⟩;obtain⟨fd,body,D,hc,hf⟩:=lO e.2.2.2.2.1;have hf:=eb hf;exact(jx fd body (eq_of_beq hf.1▸D) hc hf.2.1 (λx hx=>eq_of_beq (CV.mp hf.2.2.1 x hx)))
noncomputable def slot(o:Obj)(i:Nat):Option Cy:=o.slots.getD i none
def abX(gt:Gt)(C:Cz):Bool:=(gt C).any λo=>(abw o.data).any λcd=>[o.cls==.type "type",o.slots==#[slot o 0,slot o 1,slot o 2,slot o 3,some (.builtin "Exception.__new__"),slot o 5],cd.mro==.ref C::cd.mro.tail,cd.hasDict,!cd.hasDel,
  cd.mro.tail.contains (.type "Exception"),cd.mro.tail.contains (.type "BaseException"),!cd.mro.tail.contains (.type "AttributeError"),!cd.mro.tail.contains (.type "NameError"),!cd.mro.tail.contains (.ref 51),!cd.mro.tail.contains (.ref 63),!cd.mro.tail.contains (.ref 75)].all id
theorem akb{c:Cy}{s:Array (Option Cy)}(h1:o.cls=c)(h2:o.data=d)(h3:o.slots=s):o=⟨c,o.dict,d,s⟩:=by cases h1;cases h2;cases h3;rfl
theorem agp{c:ClassData}{m:List Cy}(h1:c.mro=m)(h2:c.hasDict=true)(h3:c.hasDel=false):c=⟨c.name,c.bases,m,c.ns,c.qualname,true,c.slotNames,c.subclasses,c.abstract,c.collection,false⟩:=by cases h1;exact h2▸h3▸rfl
theorem ahs(e:abX (bu h P) C=true):uQ (bF h P) C:=by
 obtain⟨o,ho,e⟩:=cA e;obtain⟨cd,hd,e⟩:=cA e;have e:=eb e;exact⟨o,iM ho,_,_,_,_,_,_,_,_,_,_,_,_,_,_,_,akb (eq_of_beq e.1) ((agM hd).trans (CH Data.cls (agp (eq_of_beq e.2.2.1) e.2.2.2.1 (iq e.2.2.2.2.1)))) (eq_of_beq e.2.1),e.2.2.2.2.2.1,e.2.2.2.2.2.2.1,iq e.2.2.2.2.2.2.2.1,iq e.2.2.2.2.2.2.2.2.1,λk=>match k with
  |0=>iq e.2.2.2.2.2.2.2.2.2.1
  |1=>iq e.2.2.2.2.2.2.2.2.2.2.1
  |_+2=>iq e.2.2.2.2.2.2.2.2.2.2.2.1⟩
def abW(K:Frag)(gt:Gt)(k:Nat):Bool:= [abX gt (aT k),findIn K (.ref (aT k)) "__init__"==some (some (.ref 35)),typeIn K (.ref 35)==some (.type "function"),sD K (aT k) "message",keepIn K (.ref (aT k)),
 iJ gt 35 λfd body=>[jH fd==fJ,s5 body,(fJ.all λx=>fd.scope.names.lookup x==some .local),fd.scope.names.lookup ("Exception":Str)==some .globalImplicit].all id].all id
theorem ahr(e:abW K (bu h P) k=true):uI K (bF h P) k:=by have e:=eb e;obtain⟨fd,body,D,hc,hf⟩:=lO e.2.2.2.2.2.1;have hf:=eb hf;exact⟨ahs e.1,eq_of_beq e.2.1,eq_of_beq e.2.2.1,aek e.2.2.2.1,e.2.2.2.2.1,fd,body,eq_of_beq hf.1▸D,hc,hf.2.1,λx hx=>eq_of_beq (CV.mp hf.2.2.1 x hx),eq_of_beq hf.2.2.2.1⟩
def aeQ(v:AV)(cv:Cy):Bool:=bI (eN (aF false v λi=>cv==.int i (ix cv)) v λs=>cv==.str s (ix cv)) v λb=>cv==.bytes b.toArray (ix cv)&&decide (b.length<=al)
theorem aqD(e:aeQ v cv=true)(B:CF)(μ:List Cz):VR B μ v cv:=by
 rcases mi (C:=(·=true)) e with⟨b,h,e⟩ |e
 ·rw[h,eq_of_beq (aa e).1];exact .bytes _ _ (Do (aa e).2)
 rcases ou (C:=(·=true)) e with⟨s,h,e⟩ |e
 ·rw[h,eq_of_beq e];exact .str _ _
 rcases kz (C:=(·=true)) e with⟨i,h,e⟩ |e
 ·rw[h,eq_of_beq e];exact .int _ _
 ·cases e
noncomputable def mn{K:Type}(as0:K->Cy->Bool):List DictEntry->List (K×AV)->Bool
 |[],ps=>ps.isEmpty
 |e::es,ps=>(ps.head?.any λp=>as0 p.1 e.key&&aeQ p.2 e.val)&&mn as0 es ps.tail
theorem an5{K:Type}[DecidableEq K]{knd:KeyKind prog w K}{es:List DictEntry}:∀{tab:List (K×AV)},mn knd.is es tab=true->es.map (·.hash)=tab.map (λp=>knd.hash p.1)->
  ∃kvs,Pairs knd es kvs/\(∀e∈es,∃k,knd.is k e.key=true/\e.hash=knd.hash k)/\kvs.map (·.1)=tab.map (·.1)/\∀B μ,tD B μ (tab.map (·.2)) (kvs.map (·.2)):=by
 induction es with
 |nil=>intro tab h1 _;rw[jh h1];exact(cY [] (.nil) (λe he=>nomatch he) rfl (λZ Z=>.nil))
 |cons e es ih=>
  intro tab h1 h2
  cases tab with
  |nil=>cases h2
  |cons p ps=>
   have h3:=aa (aa h1).1;obtain⟨kvs,g1,g2,g3,g4⟩:=ih (aa h1).2 (GW h2).2;refine(cY ((p.1,e.val)::kvs) (.cons h3.1 rfl g1) (λx hx=>?_) (CH (p.1::·) g3) (λB μ=>.cons (aqD h3.2 B μ) (g4 B μ)));rcases CR.mp hx with rfl |hx
   ·exact(ae p.1 h3.1 ((GW h2).1))
   ·exact g2 x hx
def lK(gt:Gt)(a:Cz):Option (List DictEntry):=(gt a).bind λo=>bif mV "dict" o then(abx o.data).map (·.1.toList) else none
theorem agX{l:List DictEntry}(e:lK (bu h P) a=some l):∃o es ep,(bF h P).get? a=some o/\o.ExactDict/\o.data=.dict es ep/\es.toList=l:=by
 obtain⟨o,ho,e⟩:=FK.mp e
 cases hb:mV "dict" o with
 |false=>rw[hb] at e;cases e
 |true=>rw[hb] at e;obtain⟨p,hp,e⟩:=Ek.mp e;have h1:=aaI hb;exact(ce o p.1 p.2 (iM ho) ⟨CH Obj.cls h1,CH Obj.dict h1,CH Obj.slots h1⟩ (agN hp) e)
theorem aew{K:Type}[DecidableEq K]{knd:KeyKind prog w K}{l:List DictEntry}{tab:List (K×AV)}(e:lK (bu h P) a=some l)(h1:mn knd.is l tab=true)(h2:l.map (·.hash)=tab.map (λp=>knd.hash p.1))(hn:(tab.map (·.1)).Nodup):
  ∃kvs:List (K×Cy),(bF h P).DictOf knd a kvs/\vN (bF h P) tab kvs:=by
 obtain⟨o,es,ep,g1,g2,g3,g4⟩:=agX e;obtain⟨kvs,k1,k2,k3,k4⟩:=an5 h1 h2;exact(aI kvs (ce o es ep g1 g2 g3 (bT (λx hx=>k2 x (g4▸J0.mpr hx)) (g4.symm▸k1) (k3.symm▸hn))) k3 (λμ=>k4 _ μ))
def sG(gt:Gt)(k:Nat):Bool:=(lK gt (ee k)).any λl=>mn Mt l (tabI k)&&l.map (·.hash)==(tabI k).map λp=>hashInt p.1
def aev(gt:Gt):Bool:=(lK gt (ee 5)).any λl=>mn Cy.isStrOf l (tabS 5)
def lT(gt:Gt):List Int:=((lK gt (ee 5)).getD []).map (·.hash)
theorem aeu(hk:k=3\/k=4)(e:sG (bu h P) k=true):∃kvs:List (Int×Cy),(bF h P).DictOf (intKind prog w) (ee k) kvs/\vN (bF h P) (tabI k) kvs:=by obtain⟨l,q,e⟩:=cA e;refine aew q (aa e).1 (eq_of_beq (aa e).2) ?_;clear q e;rcases hk with rfl |rfl<;>decide
theorem aqf(e:aev (bu h P)=true)(hh:lT (bu h P)=(tabS 5).map λp=>hashStr w p.1):∃kvs:List (Str×Cy),(bF h P).DictOf (strKind prog w) (ee 5) kvs/\vN (bF h P) (tabS 5) kvs:=by obtain⟨l,q,e⟩:=cA e;rw[lT,q] at hh;exact aew q e hh (by decide)
def hdB(gt:Gt)(cd:Cy)(P:Cz):Bool:=cd==.ref (dY cd)&&(dY cd !=P&&(gt (dY cd)).any λo=>o.cls==.type "code"&&(lJ o.data).any λvs=>[vs[11]?==some (.ref P),vs.getD 11 .none==.ref P,vs.getD 18 .none==.str (aqC (vs.getD 18 .none)) (ix (vs.getD 18 .none)),
 vs.getD 7 .none==.int (aeN (vs.getD 7 .none)) (ix (vs.getD 7 .none)),vs.getD 9 .none==.bool (aqx (vs.getD 9 .none)),vs.getD 10 .none==.int (aeN (vs.getD 10 .none)) (ix (vs.getD 10 .none))].all id)
theorem aie{cd:Cy}(e:hdB (bu h P) cd P=true):∃c,cd=.ref c/\CodeHd (bF h P) c P:=by have e2:=aa (aa e).2;obtain⟨o,ho,e3⟩:=cA e2.2;obtain⟨vs,hv,e4⟩:=cA (aa e3).2;have e4:=eb e4;exact(ace _ (eq_of_beq (aa e).1) o vs _ _ (iQ _ _ _ _ _ (iM ho) (dv (eq_of_beq (aa e3).1) (qA hv) (eq_of_beq e4.1) (eq_of_beq e4.2.1) (eq_of_beq e4.2.2.1) (eq_of_beq e4.2.2.2.1) (bT (eq_of_beq e4.2.2.2.2.1) (eq_of_beq e4.2.2.2.2.2.1) (Fb.mp e2.1)))))
noncomputable def aaq(a:Arguments):Bool:=(a.posonlyargs.isEmpty&&a.args.isEmpty)&&((a.vararg.isNone&&a.kwonlyargs.isEmpty)&&((a.kw_defaults.isEmpty&&a.kwarg.isNone)&&a.defaults.isEmpty))
theorem afo{a:Arguments}(h:aaq a=true):a=⟨[],[],none,[],[],none,[]⟩:=by
 have h1:=aa (aa h).1;have h2:=aa (aa (aa h).2).1;have h3:=aa (aa (aa h).2).2;have e:a=⟨a.posonlyargs,a.args,a.vararg,a.kwonlyargs,a.kw_defaults,a.kwarg,a.defaults⟩:=by clear h h1 h2 h3;cases a;rfl
 rw[jh h1.1,jh h1.2,Es.mp h2.1,jh h2.2,jh (aa h3.1).1,Es.mp (aa h3.1).2,jh h3.2] at e;exact e
def adE(d:Ns):Bool:=((d.tag==9&&d.n==sO)&&(d.bn==sO&&aaq d.ar))&&((d.es.isEmpty&&d.o.isNone)&&(d.tp.isEmpty&&d.ts.isNone))
theorem anV{s:Stmt}(h:adE (ag s)=true):s=.FunctionDef sO ⟨[],[],none,[],[],none,[]⟩ (ag s).x [] none [] (ag s).sc none sO (ag s).p:=by have h1:=aa (aa h).1;have h2:=aa h1.1;have h3:=aa h1.2;have h4:=aa (aa h).2;have h5:=aa h4.1;have h6:=aa h4.2;have:=iy h2.1 (by decide);change s=.FunctionDef (ag s).n (ag s).ar (ag s).x (ag s).es (ag s).o (ag s).tp (ag s).sc (ag s).ts (ag s).bn (ag s).p at this;rw[eq_of_beq h2.2,eq_of_beq h3.1,afo h3.2,DR.mp h5.1,Es.mp h5.2,DR.mp h6.1,Es.mp h6.2] at this;exact this
def aat(gt:Gt)(P:Cz)(fd:FuncData)(body:List Stmt):Bool:=((!body.isEmpty&& !body.tail.isEmpty)&&adE (ag (bL body.tail)))&&
 ((lQ 2 11 (hF fd.scope) (jH fd) fd.scope.names&&(qu (hF fd.scope) fd.scope.names qO (bL body)&&u0 (hF fd.scope) fd.scope.names (fY 2 iF) body.tail.tail))&&
 ((hdB gt fd.code P&&((hF fd.scope).contains (3,sO)&&(fd.scope.names.lookup sO==some .local&&(fd.scope.names.lookup sW==some .cell&&fd.scope.names.lookup sH==some .cell))))&&
 ((ag (bL body.tail)).sc.names==fv&&((ag (bL body.tail)).sc.kind==.function&&(!(ag (bL body.tail)).sc.isGenerator&&(!(ag (bL body.tail)).sc.isCoroutine&&u0 [(0,sW),(1,sH)] fv ig (ag (bL body.tail)).x))))))
def acr(e:CD):Bool:=((view e).tag==5&&(view e).bo==.And)&&(kU (view e).fs&&(fX (dK (view e).fs)&&dO (cW 30) (view (dK (view e).fs)).a))
theorem ai3(h:acr e=true):e=.BoolOp .And [hd (view e).fs,.Call (.Name (cW 30) (view (view (dK (view e).fs)).a).p) (view (dK (view e).fs)).fs [] (view (dK (view e).fs)).p] (view e).p:=by have h1:=aa (aa h).1;have h2:=aa (aa h).2;have h3:=aa h2.2;have e1:=gD h3.1 (eM h3.2);rw[<-e1,<-mz h2.1];exact qE h1.1 h1.2
def aau(fd:FuncData)(body:List Stmt):Bool:=(u0 (hF fd.scope) fd.scope.names (fi 8 lx) (body.take 8)&&lQ 1 10 (hF fd.scope) (jH fd) fd.scope.names)&&((ow (body.drop 8)&&((ag (bL (body.drop 8))).tag==3&&(ag (bL (body.drop 8))).o.isSome))&&
 (acr ((ag (bL (body.drop 8))).o.getD default)&&(bD (hF fd.scope) fd.scope.names kX (hd (view ((ag (bL (body.drop 8))).o.getD default)).fs)&&(uK (hF fd.scope) fd.scope.names jU (view (dK (view ((ag (bL (body.drop 8))).o.getD default)).fs)).fs&&glob? fd.scope.names (cW 30)))))
section
theorem afv(e:iJ (bu h P) (bK 31) aau=true):xJ (bF h P):=by obtain⟨fd,body,D,hc,hf⟩:=lO e;have h1:=aa (aa hf).1;have h2:=aa (aa hf).2;have h3:=aa h2.1;have h4:=aa h3.2;have h5:=aa h2.2;have h6:=aa h5.2;have h7:=aa h6.2;have hb:=(Li 8 body).symm.trans (CH (body.take 8++·) ((rW h3.1).trans (CH (λs=>[s]) ((abH h4.1 h4.2).trans (CH (λe=>Stmt.Return (some e) (ag (bL (body.drop 8))).p) (ai3 h5.1))))));exact⟨fd,_,_,_,_,_,_,_,_,_,hb▸D,hc,qV h1.2,t7 _ _ _ _ h1.1,bG _ _ _ _ h6.1,tT _ _ _ _ h7.1,h7.2⟩
theorem afu(e:iJ (bu h P) (bK 30) (aat (bu h P) P)=true)(hb:∃g,(bF h P).Ns Df g/\(bF h P).BuiltinsAt g P):wT (bF h P) P:=by obtain⟨fd,body,D,hc,hf⟩:=lO e;have a1:=aa (aa hf).1;have a2:=aa a1.1;have a3:=aa (aa hf).2;have a4:=aa a3.1;have a5:=aa a4.2;have a6:=aa a3.2;have a7:=aa a6.1;have a8:=aa a7.2;have a9:=aa a8.2;have a10:=aa a9.2;have a11:=aa a6.2;have a12:=aa a11.2;have a13:=aa a12.2;have a14:=aa a13.2;obtain⟨c,wb,hd⟩:=aie a7.1;have hb2:=(na a2.1).trans (CH (bL body::·) ((na a2.2).trans (CH (·::body.tail.tail) (anV a1.2))));exact⟨(dT fd _ _ _ _ _ (ce _ _ c (hb2▸D) hc (qV a4.1) (dv (aa5 _ _ _ _ a5.1) (t7 _ _ _ _ a5.2) wb hd (by simpa using a8.1) (eq_of_beq a9.1) (dv (eq_of_beq a10.1) (eq_of_beq a10.2) (eq_of_beq a11.1) (eq_of_beq a12.1) (rJ a13.1) (rJ a14.1) (t7 _ _ _ _ a14.2))))),hb⟩
def aes(h:CF)(P:Cz):Bool:=(h.get? P).any λo=>[o.cls==.none,o.dict.isNone,o.slots.isEmpty,(lJ o.data).any (·.isEmpty)].all id
theorem aqe(e:aes h P=true):h.get? P=some (tabObj #[]):=by obtain⟨o,ho,e⟩:=cA e;have e:=eb e;obtain⟨vs,hv,e5⟩:=cA e.2.2.2.1;have e1:o=⟨o.cls,o.dict,o.data,o.slots⟩:=rfl;rw[eq_of_beq e.1,Es.mp e.2.1,IA.mp e.2.2.1,qA hv,IA.mp e5] at e1;exact ho.trans (CH some e1)
def rZ(h:CF):Cz:=((h.get? (bK 30)).bind λo=>(qB o.data).bind λfd=>(h.get? (dY fd.code)).bind λo=>(lJ o.data).bind λvs=>vs[11]?).elim 0 dY
def chk(h:CF)(P:Cz):List Bool:= [aes h P,(ab8 (bu h P) (h.nsMap Df)).all id,kB (kh h P),(CL 2).all (acV (kh h P) (bu h P)),(CL 3).all (abW (kh h P) (bu h P)),
 (CL 42).all (qU (bu h P)),sG (bu h P) 3,sG (bu h P) 4,aev (bu h P),iJ (bu h P) (bK 30) (aat (bu h P) P),iJ (bu h P) (bK 31) aau,(h.get? sysModules).isSome,P !=sysModules]
structure wB(w:CQ)(h:CF)(P:Cz):Prop where
 uv:uk L4 w (bF h P)
 Bf:wT (bF h P) P
 a31:xJ (bF h P)
 tab:h.get? P=some (tabObj #[])
end
theorem pf(k:∀b o,h.get? b=some o->h'.get? b=some o):(bF h P).StaysIn (bF h' P):=λa o e=>cP.mpr ⟨k _ _ (cP.mp e).1,(cP.mp e).2⟩
def biB(m b:Str->Option Cy)(f:BI):Bool:=(m (dH f)).isNone&&b (dH f)==some (lA f)
noncomputable def aby:Data->Bool | .plain=>true |_=>false
theorem agP(h:aby d=true):d=.plain:=by cases d<;>first |rfl |exact nomatch (h:false=true)
def bmB(gt:Gt)(m:Str->Option Cy)(P:Cz):Bool:=(m "__builtins__").any λv=>v==.ref (dY v)&&([dY v !=Ec,dY v !=Df,dY v !=P].all id&&(gt (dY v)).any λo=>o.cls==.type "module"&&(o.dict==some Ec&&aby o.data))
theorem af0{m:Str->Option Cy}(e:bmB (bu h P) m P=true):(bF h P).BuiltinsAt m P:=by obtain⟨v,q,e⟩:=cA e;have e2:=aa (aa e).2;have e3:=eb e2.1;obtain⟨o,ho,e4⟩:=cA e2.2;have e5:=aa (aa e4).2;exact(dS (dY v) o (q.trans (CH some (eq_of_beq (aa e).1))) (Fb.mp e3.1) (Fb.mp e3.2.1) (Fb.mp e3.2.2.1) (bY (iM ho) (eq_of_beq (aa e4).1) (eq_of_beq e5.1) (agP e5.2)))
def qt(h:CF)(P:Cz):Bool:= [(chk h P).all id,h.isNs Df,h.isNs Ec,h.isNs cStatics,(h.nsMap cStatics "sys.recursionlimit").isNone,bmB (bu h P) (h.nsMap Df) P,
 [BI.len,.int,.bytes,.list,.bytearray,.max,.min,.all,.isInt,.str,.range].all (biB (h.nsMap Df) (h.nsMap Ec)),(h.nsMap Df "zip").isNone,h.nsMap Ec "zip"==some (.type "zip"),(h.nsMap Df "Exception").isNone,h.nsMap Ec "Exception"==some (.type "Exception")].all id
theorem aj9{m m':Str->Option Cy}(x:h.Ns a m)(y:h.Ns a m'):m=m':=by obtain⟨o,es,ep,e1,e2,_,e3⟩:=x;obtain⟨o',Ag,AL,f1,f2,_,f3⟩:=y;rw[e1] at f1;cases f1;rw[e2] at f2;cases f2;exact funext λz=>(e3 z).symm.trans (f3 z)
theorem nZ{m:Str->Option Cy}(t:h.get? P=some (tabObj #[]))(x:h.Ns a m):(bF h P).Ns a m:=by obtain⟨o,es,ep,e1,e2,e3⟩:=x;refine(bZ o es ep (cP.mpr ⟨e1,λq=>?_⟩) e2 e3);rw[q,t] at e1;cases e1;cases e2
theorem gi{P:Nat->Prop}(h:P n)(t:∀k,k<n->P k):∀k,k<n+1->P k:=λk hk=>(Nat.lt_or_eq_of_le (Eh hk)).elim (t k) λe=>e▸h
theorem rr{P:Nat->Prop}:∀k,k<0->P k:=λk hk=>CI hk (DX k)
theorem ah5{m:Str->Option Cy}(g:pd (ab8 (bu h P) m)):∀k,k<6->∃cv,m (eG k)=some cv/\∀μ,VR (bF h P) μ (lR k) cv:=by
 refine gi ?_ (gi ?_ (gi ?_ (gi ?_ (gi ?_ (gi ?_ rr)))))
 ·exact(ae _ (iw g.2.2.2.2.2.1) (λμ=>.gd 5 (by decide)))
 ·exact(ae _ (iw g.2.2.2.2.1) (λμ=>.gd 4 (by decide)))
 ·exact(ae _ (iw g.2.2.2.1) (λμ=>.gd 3 (by decide)))
 ·exact ajR g.2.2.1
 ·obtain⟨v,q,e⟩:=cA g.2.1;exact(ae _ (q.trans (CH some (eq_of_beq e))) (λμ=>.int _ _))
 ·obtain⟨t,e⟩:=lD g.1;exact(ae _ e (λμ=>.bytes _ _ (by decide)))
theorem afQ{m b:Str->Option Cy}(d:([BI.len,.int,.bytes,.list,.bytearray,.max,.min,.all,.isInt,.str,.range].all (biB m b))=true)(f:BI):m (dH f)=none/\b (dH f)=some (lA f):=
 have h:=aa (CV.mp d f (by cases f<;>decide))
 ⟨Es.mp h.1,eq_of_beq h.2⟩
theorem aor(e:qt h P=true)(hh:lT (bu h P)=(tabS 5).map λp=>hashStr w p.1):wB w h P:=by
 have d:=eb e;have c:=eb d.1;have g:=eb c.2.1;have t:=aqe c.1;have nm:=nZ t (IK d.2.1);refine⟨⟨(dS (h.nsMap Df) (h.nsMap Ec) nm (nZ t (IK d.2.2.1)) (λk hk=>ah5 g k (Eo hk)) (λk np nv bd hf hk=>?_) (dv ?_ ?_ (afQ d.2.2.2.2.2.2.1) (Es.mp d.2.2.2.2.2.2.2.1) (eq_of_beq d.2.2.2.2.2.2.2.2.1) (Es.mp d.2.2.2.2.2.2.2.2.2.1) (eq_of_beq d.2.2.2.2.2.2.2.2.2.2.1))),
  (ae _ (nZ t (IK d.2.2.2.1)) (Es.mp d.2.2.2.2.1)),?_,(ae (kh h P) aco (aiU c.2.2.1)),(aI (kh h P) aco (λk hk=>ajW (jf c.2.2.2.1 (Eo hk))) (λk hk=>ahr (jf c.2.2.2.2.1 (Eo hk)))),λk np nv bd hf q1 q2 q3=>ahH c.2.2.2.2.2.1 hf q1 q2 q3,λk hk=>?_,aqf c.2.2.2.2.2.2.2.2.1 hh⟩,
  afu c.2.2.2.2.2.2.2.2.2.1 (ae _ nm (af0 d.2.2.2.2.2.1)),afv c.2.2.2.2.2.2.2.2.2.2.1,t⟩
 ·have:=jf g.2.2.2.2.2.2.1 hk;rw[hf] at this;exact iw this
 ·exact λk hk=>gi (P:=λk=>h.nsMap Df (gF k)=some (.ref (bO k))) (iw g.2.2.2.2.2.2.2.2.1) (gi (iw g.2.2.2.2.2.2.2.1) rr) k (Eo hk)
 ·exact λk hk=>gi (P:=λk=>h.nsMap Df (cV k)=some (.ref (aT k))) (iw g.2.2.2.2.2.2.2.2.2.2.2.1) (gi (iw g.2.2.2.2.2.2.2.2.2.2.1) (gi (iw g.2.2.2.2.2.2.2.2.2.1) rr)) k (Eo hk)
 ·obtain⟨o,ho⟩:=FL.mp c.2.2.2.2.2.2.2.2.2.2.2.1;exact⟨o,cP.mpr ⟨ho,λq=>Fb.mp c.2.2.2.2.2.2.2.2.2.2.2.2.1 q.symm⟩⟩
 ·rcases hk with rfl |rfl
  ·exact aeu (.inl rfl) c.2.2.2.2.2.2.1
  ·exact aeu (.inr rfl) c.2.2.2.2.2.2.2.1
theorem xJ.mono(D:xJ B)(h:B.StaysIn B'):xJ B':=by refine o_eeeeee D.ex λfd a zj args ps vis=>r_eeeea λnp cp bp rp D r=>?_;exact⟨fd,a,zj,args,ps,vis,np,cp,bp,rp,D.mono h,r⟩
theorem wB.mono(R:wB w h P)(k:∀b o,h.get? b=some o->h'.get? b=some o):wB w h' P:=⟨R.uv.mono (pf k),R.Bf.mono (pf k),R.a31.mono (pf k),k _ _ R.tab⟩
section
set_option maxRecDepth 1000000
noncomputable abbrev pw:Program:=L4
def ael(P:Params)(os:OsState):SharedT:=⟨aqu (Eu P),11,(Eu P).life,Gk [],Hv,Hw,os⟩
def qv:Program:=PySem.W.view pw [49]
noncomputable def rq:List Str:=(["_wall","PressError","MarkerError","CutError","RangeError","COUNTS","Plane","Picture","kept_in","greatest_sample","same_plane","same_picture","check_plane","check_picture","planes_of","samples_of","read_octets","write_octets","BLANKS","MOST_FIGURES","skip_blanks","next_word","number_of","precision_of","check_sides","KINDS","MODELS","NAMES","read_told_head","read_map","write_map","_law_bucket","_law_ladle","_law_gap","_law_picture","_law_words","_law_head","_law_samples","_law_refused","_law_cut_due","_law_values_right","_law_is_refused","_law_others_right"]:List String).map Et
noncomputable def xt:CC->Bool:=λZ=>true
def yf(s:CC):Bool×List Int:=(qt s.heap (rZ s.heap),lT (bu s.heap (rZ s.heap)))
def ya(w:CQ):Bool×List Int:=(true,(tabS 5).map λp=>hashStr w p.1)
noncomputable def cN(P:Params)(s:CC):=(staticsOk (importedModules pw.main.body) (Eu P) s.heap&&namesBound pw s.heap&&gensDone s&&laidKept (Eu P) s.heap,Np qv rq (importedModules pw.main.body) xt true s,yf s)
def adU(w:CQ)(os:OsState):Option SharedT:=jt (Mi 11 (some (.ref 6))) (Mf (Mg Mh) pw w) 3000 (ael w.params os) (topStub pw)
def pq(w:CQ):Prop:=∀os:OsState,(adU w os).map (λs=>cN w.params s.abs)=some (true,openGood qv rq,ya w)
theorem aoH:∀w:CQ,pq (w.withFollow "special-get-raises" false):=λw os=>by kernel_rfl
theorem aoJ:∀w:CQ,pq (w.withFollow "special-get-raises" true):=λw os=>by kernel_rfl
theorem ran(w:CQ):pq w:=byRow2 "special-get-raises" aoH aoJ w
theorem apW(P:Params)(os:OsState):(ael P os).abs=⟨Eu P,Gk [],Hv,Hw,os⟩:=by kernel_rfl
theorem af4(P:Params):((Eu P).isNs Df&&(Gk []:Array GenState).size==0,(Eu P).objs.size,(Eu P).nsMap Df "__annotations__")=(true,11,some (.ref 6)):=by kernel_rfl
theorem af3(w:CQ):(fencedOpening treeTable pw w 3000).map (λs=>(s.heap,s.gens,s.drawn,s.toks))=some (Eu w.params,Gk [],Hv,Hw):=boot_open (p:=pw) (N:=3000) (by kernel_rfl) (by decide) (λs=>by kernel_rfl) w
theorem left:LeftO pw qv rq xt yf ya 3000:=λw=>by
 (obtain⟨zq0,e,e'⟩:=Ek.mp (af3 w);obtain⟨h,gs,d,k,os⟩:=zq0);obtain⟨rfl,rfl,rfl,rfl⟩:h=Eu w.params/\gs=Gk []/\d=Hv/\k=Hw:=by simpa using e'
 obtain⟨z1,z2,z3⟩:_/\_/\_:=by simpa only[Ir] using af4 w.params
 obtain⟨s,r,l⟩:=Ek.mp (ran w os);unfold adU at r;rw[<-ah6] at r;have r:=ah8 r;rw[apW] at r;unfold cN at l;rw[<-Nn] at l;obtain⟨l1,l2,l3⟩:_/\_/\_:=by simpa only[Ir] using l
 have t:topFrom treeTable pw w 3000 ⟨Eu w.params,Gk [],Hv,Hw,os⟩=some s.abs:=by
  unfold topFrom;dsimp only;rw[z1,z2,z3,r];show(match staticsOk (importedModules pw.main.body) (Eu w.params) s.abs.heap&&namesBound pw s.abs.heap&&gensDone s.abs&&laidKept (Eu w.params) s.abs.heap with |true=>_ |false=>_)=_
  rw[l1]
 unfold openEnds;rw[e,LZ,t];exact CH some (Jw l2 l3)
end
section
set_option maxRecDepth 1000000
noncomputable abbrev ey:OpenLaw:=Ni
theorem nr{a:Bool}{l:List Str}{b:List Stmt}(h:a=false)(e:l=[])(k:Fast.tw8326940854005059898 {strict:=false,foot:=none} b=true):Fast.tw8326940854005059898 {strict:=a,foot:=none,bare:=l} b=true:=by subst h e;exact k
theorem apm:ey.wellSaid=true:=by
 rw[Fast.te9446332074065402090]
 repeat' (first |with_reducible refine look_both ?_ ?_ |(first |delta Fast.tw9446332074065402090 |delta Fast.tw17960256430627541270 |delta Fast.tw2436336058641802641 |delta Fast.tw12908688711261696721);try dsimp only)
 all_goals first |(with_reducible refine nr (by kernel_rfl) (by kernel_rfl) ?_;decide+kernel) |decide+kernel
theorem akj:(chainsOk qv&&opensWell ey.row.prog&&(frees ey.row.toRowW&&ey.row.within.isEmpty))=true:=by decide+kernel
theorem agR:(defOf qv ey.row.name).isSome=true:=by decide+kernel
theorem agS:ey.row.prog.theDef ey.row.name=(defOf qv ey.row.name).map λx=>(x.1.params,x.1.body,x.1.scope):=by kernel_rfl
theorem agT:((defOf qv ey.row.name).map λx=>kwWritten? x.1.params.kwonlyargs x.1.params.kw_defaults)=(defOf qv ey.row.name).map λx=>some x.2:=by kernel_rfl
theorem kept:ey.row.toRowW.promised:=(ae ([.list []]) (by decide+kernel) (by decide+kernel))
theorem bare:ey.row.prog.bare:=(gN rfl rfl rfl rfl rfl (by decide+kernel))
def YPm(w:CQ)(h:CF):Prop:=∃h0 P,qt h0 P=true/\lT (bu h0 P)=((tabS 5).map λp=>hashStr w p.1)/\∀b o,h0.get? b=some o->h.get? b=some o
theorem aiI{R:WRecords}{cl:Str->Option Cz}:∀{tf:List Cy}{as:List Cz},ReadsAllW R cl h tf (ns.map .int) as->IntsAre tf ns:=by
 induction ns with
 |nil=>exact λr=>by rw[(MG r).1];exact .nil
 |cons n ns ih=>intro tf as r;obtain⟨v,vs,a,b,e,_,r1,r2⟩:=MF r;obtain⟨t,e1,_⟩:=readsW_int_inv r1;subst e e1;exact .cons _ _ (ih r2)
theorem aol{args:List WData}(e:ey.row.toRowW.claim.pre args=true):∃ns:List Int,args=[.list (ns.map .int)]/\ns.length<=63:=by
 obtain⟨e1,e2⟩:=pre_splitW e;obtain⟨d,r,rfl,h1,h2⟩:=hasAllW_cons e1;obtain rfl:=hasAllW_nil h2;obtain⟨xs,rfl,h3⟩:=hasW_list h1;obtain⟨ns,rfl⟩:=items_int h3;refine(ae ns rfl ?_)
 by_cases hc:ns.length<=63
 ·exact hc
 ·exfalso;have e3:(match(match(match Option.map FM (less? (Hu 63) (Hu ((ns.map Hu).length:Int))) with |some (FM b)=>some (FM !b) |_=>none) with
    |some (FM false)=>some (FM false) |some (FM true)=>some (FM true) |_=>none) with |some (FM true)=>true |_=>false)=true:=e2
  rw[List.length_map] at e3;have xX:decide ((63:Int)<(ns.length:Int))=true:=C5 (om0 hc);have e4:less? (Hu 63) (Hu (ns.length:Int))=some true:=by show some (decide ((63:Int)<(ns.length:Int)))=some true;rw[xX]
  rw[e4] at e3;cases e3
theorem arh(PL:∀ns:List Int,ns.length<=63->AF 20 (.tR ns) []):ey.Holds:=by
 refine holds_law apm λk1=>?_;obtain⟨⟨d,Cg⟩,yj⟩:=FL.mp agR;have hp:=agS;have hk:=agT;rw[yj] at hp hk;refine anZ (YP:=YPm) left (λw s e=>?_) (λw h h' y k=>?_) yj hp (C0 hk) rfl k1 akj bare kept λw xB td mg mb G Y a ha args vs as xR yo L=>?_
 ·have e1:=CH Prod.fst e;have e2:=CH Prod.snd e;exact(ax s.heap (rZ s.heap) e1 e2 (λZ Z x=>x))
 ·obtain⟨h0,P,y1,y2,y3⟩:=y;exact(ax h0 P y1 y2 (λb o x=>k _ _ (y3 _ _ x)))
 obtain⟨h0,P,y1,y2,y3⟩:=Y;have R0:=aor y1 y2;have R:=R0.mono y3;obtain⟨ns,rfl,hl⟩:=aol xR;have AZ:=L.reads;obtain⟨v,vs',as1,as2,e1,-,r1,r2⟩:=MF AZ;obtain⟨aL,o,ws,n,as3,e3,g1,g2,g3,g4,-⟩:=readsW_list_open r1;have e2:=(MG r2).1;clear AZ r1 r2;subst e3;subst e2;subst e1;have hi:=aiI g4;have um:aL≠P:=λq=>by rw[q,R.tab] at g1;cases g1;cases g3
 have asR:(bF td.heap P).IsList aL (Da ws.toList):=(lU o (cP.mpr ⟨g1,um⟩) g2 n (by rw[g3]));have hv:tD (bF td.heap P) [] [.tR ns] [.ref aL]:=.cons (.tR ns aL ws.toList asR hi (by rw[dN];exact om1 hl)) .nil;obtain⟨gm,_,q1,_,_,q2,_⟩:=(R.uv.ns);obtain rfl:mg=gm:=aj9 (nZ R.tab G.T.g) q1;have ha2:=q2 31 _ _ _ rfl (by decide);have asT:ey.row.name=cW 31:=rfl;rw[asT,ha2] at ha;obtain rfl:bK 31=a:=by cases ha;rfl
 let c0:tG:=⟨pw,w,λb o=>b=P/\o=tabObj #[],[],⟨λZ Z Z=>.bad,0,false⟩⟩
 have I0:Inv pw w (bF td.heap P) c0.U [] [] td.heap:=⟨λb o e=>(cP.mp e).1,λb o hu=>by obtain⟨rfl,rfl⟩:=hu;exact(ft (oM λq=>q rfl) (λhm=>nomatch hm) #[] R.tab (λZ=>rfl)),Ie,(λb hb=>nomatch hb),rfl,λi b o e=>by simp at e⟩
 have hS:gA callerA c0.U c0.fs:=⟨rfl,λenv he=>nomatch he⟩
 refine kZ (N31 hS (by decide) (by decide) rfl I0 R.uv R.a31 R.Bf ⟨rfl,rfl⟩ hv (PL ns hl) ⟨19,rfl⟩ λh' t' st pt=>(ae _ rfl ?_));obtain⟨ps,AX⟩:=pt;refine(bY (.inl (ce (.bool true) (.bool true) [] rfl (λZ=>rfl) (.bool _) (bE ?_ (λZ=>⟨Ie,(λb hb=>nomatch hb)⟩)))) ⟨λb o e=>?_,λb o e=>?_⟩ rfl ?_)
 ·kernel_rfl
 ·by_cases q:b=P
  ·subst q;rw[R.tab] at e;cases e;refine o_eeeeee R.Bf.ex λZ Z Z Z Z Z=>r_eeeaaa λZ Z cc Z Z Z=>r_aaaa λZ Z Z C Z=>?_;(revert C;refine r_eeeeee λoc vs Z Z Z Z=>r_eeeaaa λZ Z Z x1 x2 x3=>r_a λx4 Z=>?_);exact .inr (.inl (aiq (ce cc oc vs ((cP.mp x1).1) x2 x3 x4) rfl #[] ps rfl (by rw[Array.empty_append];exact AX)))
  ·exact .inl (st _ _ (cP.mpr ⟨e,q⟩))
 ·by_cases q:b=P
  ·subst q;exact⟨_,AX⟩
  ·exact⟨o,st _ _ (cP.mpr ⟨e,q⟩)⟩
 ·exact AllBare.of_eq L.gens
end
namespace L
variable {H H1 H2 H' l:AH}{p n k d w h q i j b lo s sp rp u N np nv:Nat}{ρ:aB}{c:UInt8}{v ua a2 a4 a1 a3 a5 a7:AV}{f:Nat->Nat->Nat->Nat}{xs vs ps:List AV}{r:Bool}{m:Str}{t:R AV}{Γ:Ctx}{x y z:Int}{fl:List Nat}{α β:Type}{E:Nat->AH->Prop}{a e it:PE}{Q:Fl->AH->Prop}{bd:tQ}
section
variable {m:Nat}{H3 H4:AH}{b c i:PE}{es:ub}{x y z:AV}
theorem X1{r:R α}{f:α->AH->R β}{t:R β}{w:α}(h:r=.ok w H1)(k:f w H1=t):r.bind f=t:=by rw[h];exact k
theorem X2{r:R α}{f:α->AH->R β}(h:r=.exc j H1):r.bind f=.exc j H1:=by rw[h];rfl
noncomputable def okV:AV->Bool
 | .undef=>false
 | .fn _=>false
 |_=>true
theorem Xv(h:ρ[j]?=some v)(h1:okV v=true):ev Γ (.var j) m ρ H=.ok v H:=by rw[E1.var];rw[h];clear h;cases v<;>first |rfl |cases h1
theorem am{o:zk}(h1:ev Γ a m ρ H=.ok x H1)(h2:ev Γ b m ρ H1=.ok y H2)(h3:dc o x y H2=.ok z H3):ev Γ (.bin o a b) m ρ H=.ok z H3:=by rw[E1.bin];exact X1 h1 (X1 h2 h3)
theorem aw{o:yA}(h1:ev Γ a m ρ H=.ok x H1)(h2:ev Γ b m ρ H1=.ok y H2)(h3:bj H2 o x y=some r):ev Γ (.cmp a o b) m ρ H=.ok (.bool r) H2:=by rw[E1.cmp];exact X1 h1 (X1 h2 (by rw[h3];rfl))
theorem aR(h1:ev Γ a m ρ H=.ok x H1)(h2:ev Γ i m ρ H1=.ok y H2)(h3:eJ H2 x y=some z):ev Γ (.idx a i) m ρ H=.ok z H2:=by rw[E1.idx];exact X1 h1 (X1 h2 (by rw[h3];rfl))
theorem ay(h1:ev Γ a m ρ H=.ok x H1)(h3:lv x n=some z):ev Γ (.attr a n) m ρ H=.ok z H1:=by rw[E1.attr];exact X1 h1 (by rw[h3];rfl)
theorem ad(h1:ev Γ a m ρ H=.ok x H1)(h2:uc Γ es m ρ H1=.ok vs H2):uc Γ (.cons a es) m ρ H=.ok (x::vs) H2:=by rw[E2.cons];exact X1 h1 (X1 h2 rfl)
theorem aj:uc Γ .nil m ρ H=.ok [] H:=rfl
theorem fR{t:R AV}(h1:uc Γ es m ρ H=.ok vs H1)(h2:Γ.C k vs H1=t):ev Γ (.call k es) m ρ H=t:=by rw[E1.call];exact X1 h1 h2
theorem aM{f:BI}{t:R AV}(hd:Γ.hd=false)(h1:uc Γ es m ρ H=.ok vs H1)(h2:cT H1 f vs=t):ev Γ (.bi f es) m ρ H=t:=by rw[E1.bi];rw[hd];exact X1 h1 h2
theorem cS{f:MT}{t:R AV}(hd:Γ.hd=false)(h0:ev Γ a m ρ H=.ok x H1)(hk:lX H1 f x=true)(h1:uc Γ es m ρ H1=.ok vs H2)(h2:dW H2 f x vs=t):ev Γ (.tN f a es) m ρ H=t:=by rw[E1.tN];rw[hd];exact X1 h0 (by rw[hk];exact X1 h1 h2)
theorem bB(h1:uc Γ es m ρ H=.ok vs H1)(h:vs.length<=al):ev Γ (.list es) m ρ H=.ok (.ref H1.length) (H1++[.list vs]):=by rw[E1.list];refine X1 h1 ?_;unfold cn;exact CG h
theorem cq(h1:uc Γ es m ρ H=.ok vs H1):ev Γ (.tup es) m ρ H=.ok (.tup vs) H1:=by rw[E1.tup];exact X1 h1 rfl
theorem aam{t:R AV}(h:ev Γ c m ρ H=.ok (.bool r) H1)(k:(if r=true then ev Γ a m ρ H1 else ev Γ b m ρ H1)=t):ev Γ (.u5 c a b) m ρ H=t:=by rw[E1.u5];exact X1 h k
theorem jR{t:R AV}(h:ev Γ c m ρ H=.ok (.bool true) H1)(k:ev Γ a m ρ H1=t):ev Γ (.u5 c a b) m ρ H=t:=aam h k
theorem jQ{t:R AV}(h:ev Γ c m ρ H=.ok (.bool false) H1)(k:ev Γ b m ρ H1=t):ev Γ (.u5 c a b) m ρ H=t:=aam h k
theorem iB(h:ev Γ c m ρ H=.ok (.bool r) H1):ev Γ (.not c) m ρ H=.ok (.bool (!r)) H1:=by rw[E1.not];exact X1 h rfl
theorem aal{t:R AV}(h:ev Γ a m ρ H=.ok (.bool r) H1)(k:(if r=true then tX Γ es m ρ H1 else .ok (.bool false) H1)=t):tX Γ (.cons a es) m ρ H=t:=by rw[E3.cons];exact X1 h k
theorem Xor{t:R AV}(h:ev Γ a m ρ H=.ok (.bool r) H1)(k:(if r=true then .ok (.bool true) H1 else vj Γ es m ρ H1)=t):vj Γ (.cons a es) m ρ H=t:=by rw[E4.cons];exact X1 h k
theorem bV{t:R AV}(h:ev Γ a m ρ H=.ok (.bool true) H1)(k:tX Γ es m ρ H1=t):tX Γ (.cons a es) m ρ H=t:=aal h k
theorem eV(h:ev Γ a m ρ H=.ok (.bool false) H1):tX Γ (.cons a es) m ρ H=.ok (.bool false) H1:=aal h rfl
theorem bx{t:R AV}(h:ev Γ a m ρ H=.ok (.bool false) H1)(k:vj Γ es m ρ H1=t):vj Γ (.cons a es) m ρ H=t:=Xor h k
theorem dk(h:ev Γ a m ρ H=.ok (.bool true) H1):vj Γ (.cons a es) m ρ H=.ok (.bool true) H1:=Xor h rfl
theorem gC:tX Γ .nil m ρ H=.ok (.bool true) H:=rfl
theorem fS:vj Γ .nil m ρ H=.ok (.bool false) H:=rfl
theorem db{t:R AV}(h:tX Γ es m ρ H=t):ev Γ (.band es) m ρ H=t:=by rw[E1.band];exact h
theorem bW{t:R AV}(h:vj Γ es m ρ H=t):ev Γ (.bor es) m ρ H=t:=by rw[E1.bor];exact h
theorem jP{o o':yA}{q:Bool}(h1:ev Γ a m ρ H=.ok x H1)(h2:ev Γ b m ρ H1=.ok y H2)(h3:bj H2 o x y=some r)(h4:ev Γ c m ρ H2=.ok z H3)(h5:bj H3 o' y z=some q)(e:H3=H2):
  ev Γ (.uE a o b o' c) m ρ H=.ok (.bool (r&&q)) H2:=by
 subst e;rw[E1.uE];refine X1 h1 (X1 h2 ?_);rw[h3]
 cases r with
 |true=>exact X1 h4 (by rw[h5];rfl)
 |false=>rfl
theorem fT{lo hi st:ub}{l u w:List AV}{t:R AV}(h1:ev Γ a m ρ H=.ok x H1)(h2:uc Γ lo m ρ H1=.ok l H1)(h3:uc Γ hi m ρ H1=.ok u H1)(h4:uc Γ st m ρ H1=.ok w H1)(h:dA H1 x l u w=t):ev Γ (.slice a lo hi st) m ρ H=t:=by rw[E1.slice];exact X1 h1 (X1 h2 (X1 h3 (X1 h4 h)))
theorem je(hd:Γ.hd=false)(h1:uc Γ es m ρ H=.ok vs H1)(h:vs.length=3):ev Γ (.new k es) m ρ H=.ok (.inst k vs) H1:=by rw[E1.new];rw[hd];refine X1 h1 ?_;exact CG h
variable {s:PS}{p q:tQ}{t:R Fl}
theorem Sn:CE Γ .nil ρ H=.ok (.next ρ) H:=rfl
theorem Sc(h:exec Γ s ρ H=.ok (.next ρ') H1)(k:CE Γ ss ρ' H1=t):CE Γ (.cons s ss) ρ H=t:=by rw[E6.cons];exact X1 h k
theorem Sr(h:exec Γ s ρ H=.ok (.ret v) H1):CE Γ (.cons s ss) ρ H=.ok (.ret v) H1:=by rw[E6.cons];exact X1 h rfl
theorem Se(h:exec Γ s ρ H=.exc k H1):CE Γ (.cons s ss) ρ H=.exc k H1:=by rw[E6.cons];exact X2 h
theorem aD(h:ev Γ a 4 ρ H=.ok v H1):exec Γ (.assign (.var j) a) ρ H=.ok (.next (ρ.set j v)) H1:=by rw[E5.assign];exact X1 h rfl
theorem aai{pt:PT}(h:ev Γ a 4 ρ H=.exc k H1):exec Γ (.assign pt a) ρ H=.exc k H1:=by rw[E5.assign];exact X2 h
theorem dE{js:List Nat}(hd:Γ.hd=false)(h:ev Γ a 4 ρ H=.ok v H1)(hb:bz H1 js false v ρ=some ρ'):exec Γ (.assign (.tup js) a) ρ H=.ok (.next ρ') H1:=by rw[E5.assign];refine X1 h ?_;dsimp only;rw[hd,hb];rfl
theorem lp(h:ev Γ a 4 ρ H=.ok v H1)(h1:ev Γ b 4 ρ H1=.ok x H2)(h2:ev Γ c 4 ρ H2=.ok y H3)(h3:gZ H3 x y v=some H4):exec Γ (.assign (.sub b c) a) ρ H=.ok (.next ρ) H4:=by rw[E5.assign];refine X1 h (X1 h1 (X1 h2 ?_));rw[h3]
theorem eU(h:ev Γ a 4 ρ H=.ok v H1)(hp:fA v=true):exec Γ (.expr a) ρ H=.ok (.next ρ) H1:=by rw[E5.expr];exact X1 h (CG hp)
theorem cR(h:ev Γ a 4 ρ H=.ok v H1):exec Γ (.ret a) ρ H=.ok (.ret v) H1:=by rw[E5.ret];exact X1 h rfl
theorem Sif(h:ev Γ a 4 ρ H=.ok (.bool r) H1)(k:(if r=true then CE Γ p ρ H1 else CE Γ q ρ H1)=t):exec Γ (.ifs a p q) ρ H=t:=by rw[E5.ifs];exact X1 h k
theorem d8(h:ev Γ a 4 ρ H=.ok (.bool true) H1)(k:CE Γ p ρ H1=t):exec Γ (.ifs a p q) ρ H=t:=Sif h k
theorem fN(h:ev Γ a 4 ρ H=.ok (.bool false) H1)(k:CE Γ q ρ H1=t):exec Γ (.ifs a p q) ρ H=t:=Sif h k
theorem fO(hd:Γ.hd=false):exec Γ (.raise k) ρ H=.exc k H:=by rw[E5.raise];rw[hd];rfl
end
def af(n:Nat):Ctx:=⟨run n,100000,false⟩
theorem dQ(f:dJ k=some (np,nv,bd))(l:vs.length=np)(h:CE (af n) bd (vs++CK (nv-np) .undef) H=.ok (.ret v) H'):run (n+1) k vs H=.ok v H':=by rw[kJ,f];dsimp only;rw[CG l];exact X1 h rfl
theorem aoI(f:dJ k=some (np,nv,bd))(l:vs.length=np)(h:CE (af n) bd (vs++CK (nv-np) .undef) H=.ok (.next ρ) H'):run (n+1) k vs H=.ok .none H':=by rw[kJ,f];dsimp only;rw[CG l];exact X1 h rfl
theorem gv(f:dJ k=some (np,nv,bd))(l:vs.length=np)(h:CE (af n) bd (vs++CK (nv-np) .undef) H=.exc j H'):run (n+1) k vs H=.exc j H':=by rw[kJ,f];dsimp only;rw[CG l];exact X2 h
def Bk(b:Nat)(H:AH):Prop:=∃s t,H[b]?=some (.list [.int s,.int t])
theorem bq(h:H[p]?=some (.list xs)):az H p=some xs:=by unfold az;rw[h]
theorem ip{i:Int}(h:H[p]?=some (.list xs)):eJ H (.ref p) (.int i)=jy xs i:=by show aJ none (az H p) _=_;rw[bq h];rfl
theorem cD{o:AO}(h:H[p]?=some o):p<H.length:=(List.getElem?_eq_some_iff.mp h).1
theorem sF{i:Int}(h:H[p]?=some (.list xs))(h0:0<=i/\i<xs.length):gZ H (.ref p) (.int i) v=some (H.set p (.list (xs.set i.toNat v))):=by show aJ none (az H p) _=_;rw[bq h];exact CG h0
theorem mB(h:0<y/\y<4294967296):dc .mod (.int x) (.int y) H=.ok (.int (x.fmod y)) H:=CG h
theorem o8(h:0<y/\y<1073741824):dc .fdiv (.int x) (.int y) H=.ok (.int (x.fdiv y)) H:=CG h
theorem fG(h:x.natAbs<cI\/y.natAbs<cI):dc .mul (.int x) (.int y) H=.ok (.int (x*y)) H:=CG h
theorem Xi{m:Nat}{i:Int}:ev Γ (.s7 i) m ρ H=.ok (.int i) H:=rfl
theorem eW(h:decide (y<x)=r):bj H .gt (.int x) (.int y)=some r:=by rw[<-h];rfl
theorem ai2{top:Int}(h:Bk b H)(h1:0<top)(h2:top<1073741824):
  ∃(d:Nat)(s' t':Int),(d:Int)<top/\run (n+1) 20 [.ref b,.int top] H=.ok (.int d) (H.set b (.list [.int s',.int t'])):=by
 obtain⟨s,t,h⟩:=h;have hb:=cD h;have fm:∀x:Int,∃d:Nat,(d:Int)<top/\x.fmod top=d:=λx=>by rw[GR _ (EJ h1)];obtain⟨d,hd⟩:=GP (Int.emod_nonneg x (HQ h1));exact(ae d (by rw[<-hd];exact Kp _ h1) hd)
 by_cases hs:0<s
 ·obtain⟨d,d1,d2⟩:=fm s;refine(gc d (s.fdiv top) t d1 (dQ rfl rfl ?_));show CE (af n) pZ [.ref b,.int top,.undef] H=_;refine Sr (d8 (aw (aR (Xv rfl rfl) Xi (ip h)) Xi (eW (C5 hs))) (Sc (aD (am (aR (Xv rfl rfl) Xi (ip h)) (Xv rfl rfl) (mB ⟨h1,by exact(Fi h2 (by decide))⟩))) (Sc (lp (am (aR (Xv rfl rfl) Xi (ip h)) (Xv rfl rfl) (o8 ⟨h1,h2⟩)) (Xv rfl rfl) Xi (sF h (by simp))) (Sr (cR ?_)))));rw[<-d2];exact Xv rfl rfl
 ·obtain⟨d,d1,d2⟩:=fm (((t*16807+47).fmod 2147483647).fdiv 24);have e:(H.set b (AO.list [.int s,.int ((t*16807+47).fmod 2147483647)]))[b]?=some (.list [.int s,.int ((t*16807+47).fmod 2147483647)]):=EV hb;refine(gc d s ((t*16807+47).fmod 2147483647) d1 (dQ rfl rfl ?_));show CE (af n) pZ [.ref b,.int top,.undef] H=_;refine Sc (fN (aw (aR (Xv rfl rfl) Xi (ip h)) Xi (eW (Dx hs))) Sn) (Sc
   (lp (am (am (am (aR (Xv rfl rfl) Xi (ip h)) Xi (fG (.inr (by decide)))) Xi rfl) Xi (mB (by decide))) (Xv rfl rfl) Xi (sF h (by simp))) (Sr (cR (am (am (aR (Xv rfl rfl) Xi (ip e)) Xi (o8 (by decide))) (Xv rfl rfl) ?_))))
  rw[<-d2];exact mB ⟨h1,by exact(Fi h2 (by decide))⟩
def bl(c:UInt8):Bool:=jX.any λk=>(k.toNat:Int)==c.toNat
noncomputable def sk:Bool->List UInt8->List UInt8
 |_,[]=>[]
 |false,c::r=>if bl c then sk false r else if c=35 then sk true r else c::r
 |true,c::r=>if c=10 then sk false r else sk true r
noncomputable def wd:List UInt8->List UInt8
 |[]=>[]
 |c::r=>if bl c||c==35 then [] else c::wd r
theorem oU{r:List UInt8}:sk false (c::r)=if bl c then sk false r else if c=35 then sk true r else c::r:=rfl
theorem aea{r:List UInt8}:sk true (c::r)=if c=10 then sk false r else sk true r:=rfl
theorem afY:bl 10=true:=by decide
theorem apw:∀l:List UInt8,sk true l=sk false (l.dropWhile (·!=10)):=by
 intro zi
 induction zi with
 |nil=>
 exact rfl
 |cons c r ih=>
 exact by
  rw[aea,I7]
  by_cases h:c=10
  ·subst h;rw[CG rfl,CJ (by decide),oU,CG afY]
  ·rw[CJ h,CG (by simpa using h)];exact ih
theorem ii(h:decide (x<y)=r):bj H .lt (.int x) (.int y)=some r:=by rw[<-h];rfl
theorem jl(h:(x==y)= !r):bj H .ne (.int x) (.int y)=some r:=by show some (!(x==y))=_;rw[h,HK]
theorem iG(h:(x==y)=r):bj H .eq (.int x) (.int y)=some r:=by rw[<-h];rfl
theorem rc{b:List UInt8}(h:b[i]?=some c):eJ H (.bytes b) (.int i)=some (.int c.toNat):=by show au none (0<=(i:Int)) ((b[(i:Int).toNat]?).map λc=>AV.int c.toNat)=_;unfold au;rw[CG (DO i),DQ,h];rfl
theorem EH{b:List UInt8}:cT H .len [.bytes b]=.ok (.int b.length) H:=rfl
theorem W1{c:aB->AH->R AV}{f:aB->AH->R Fl}{t:R Fl}(h1:c ρ H=.ok (.bool true) H1)(h2:f ρ H1=.ok (.next ρ') H2)(h3:dZ c f n ρ' H2=t):dZ c f (n+1) ρ H=t:=by rw[E9.s];exact X1 h1 (X1 h2 h3)
theorem W0{c:aB->AH->R AV}{f:aB->AH->R Fl}(h1:c ρ H=.ok (.bool false) H1):dZ c f (n+1) ρ H=.ok (.next ρ) H1:=by rw[E9.s];exact X1 h1 rfl
theorem mH{p:tQ}{t:R Fl}(h:dZ (λρ H=>ev Γ a 4 ρ H) (λρ H=>CE Γ p ρ H) Γ.wf ρ H=t):exec Γ (.uO a p) ρ H=t:=by rw[E5.uO];exact h
theorem qD{o l:List UInt8}(h:o.drop i=c::l):o[i]?=some c/\o.drop (i+1)=l/\i<o.length:=by
 have h1:(o.drop i)[0]?=some c:=by rw[h];rfl
 rw[G9] at h1;refine⟨by simpa using h1,?_,(List.getElem?_eq_some_iff.mp (by simpa using h1)).1⟩;rw[<-Ja,h];rfl
theorem sR{k:UInt8}:((c.toNat:Int)==(k.toNat:Int))=(c==k):=by
 by_cases h:c=k
 ·subst h;simp
 ·have:c.toNat≠k.toNat:=λq=>h (JE.mp q);rw[EG h];exact EG λq=>this (Ky q)
noncomputable def m8:PE:=.band (.cons (.cmp (.var 1) .lt (.bi .len (.cons (.var 0) .nil))) (.cons (.cmp (.idx (.var 0) (.var 1)) .ne (.s7 10)) .nil))
noncomputable def mx:tQ:=.cons (.assign (.var 1) (.bin .add (.var 1) (.s7 1))) .nil
section
variable {o:List UInt8}
theorem km(h0:ρ[k]?=some (.bytes o))(h1:ρ[j]?=some (.int i)):ev (af n) (.cmp (.var j) .lt (.bi .len (.cons (.var k) .nil))) 4 ρ H=.ok (.bool (decide (i<o.length))) H:=aw (Xv h1 rfl) (aM rfl (ad (Xv h0 rfl) aj) EH) (ii (by simp))
theorem jV(h0:ρ[k]?=some (.bytes o))(h1:ρ[j]?=some (.int i))(h:o[i]?=some c):ev (af n) (.idx (.var k) (.var j)) 4 ρ H=.ok (.int c.toNat) H:=aR (Xv h0 rfl) (Xv h1 rfl) (rc h)
theorem acA:∀(l:List UInt8)(i k:Nat),o.drop i=l->i<=o.length->l.length<k->dZ (λρ H=>ev (af n) m8 4 ρ H) (λρ H=>CE (af n) mx ρ H) k [.bytes o,.int i] H=
  .ok (.next [.bytes o,.int ((o.length-(l.dropWhile (·!=10)).length:Nat))]) H
 |[],i,0,h,hi,hk=>by cases hk
 |[],i,k+1,h,hi,hk=>by have e:i=o.length:=Hg hi (Jb.mp h);have:=W0 (n:=k) (f:=λρ H=>CE (af n) mx ρ H) (c:=λρ H=>ev (af n) m8 4 ρ H) (ρ:= [.bytes o,.int i]) (H:=H) (db (eV ((km rfl rfl).trans (by rw[Dx (oj e)]))));rw[this,e];rfl
 |c::l,i,0,h,hi,hk=>by cases hk
 |c::l,i,k+1,h,hi,hk=>by
  obtain⟨h1,h2,h3⟩:=qD h;rw[I7];have hl:=CH DI h;rw[Dd,Dc] at hl;have e1:ev (af n) (.cmp (.var 1) .lt (.bi .len (.cons (.var 0) .nil))) 4 [.bytes o,.int i] H=.ok (.bool true) H:=(km rfl rfl).trans (by rw[C5 h3])
  by_cases q:c=10
  ·clear h hk;subst q;rw[CJ (by decide)];rw[W0 (n:=k) (f:=λρ H=>CE (af n) mx ρ H) (c:=λρ H=>ev (af n) m8 4 ρ H) (db (bV e1 (eV (aw (jV rfl rfl h1) Xi (jl rfl)))))];rw[Dc,show o.length-(l.length+1)=i by exact(hl▸LW (CN h3))]
  ·rw[CG (by simpa using q)];refine W1 (db (bV e1 (bV (aw (jV rfl rfl h1) Xi (jl (r:=true) ?_)) gC))) (Sc (aD (am (Xv rfl rfl) Xi rfl)) Sn) (acA l (i+1) k h2 h3 (FG hk));exact(sR (k:=10)).trans (EG q)
noncomputable def m9:PE:=.band (.cons (.cmp (.var 1) .lt (.bi .len (.cons (.var 0) .nil))) (.cons (.bor (.cons (.cmp (.idx (.var 0) (.var 1)) .isin (.glob 0)) (.cons (.cmp (.idx (.var 0) (.var 1)) .eq (.s7 35)) .nil))) .nil))
def qn:tQ:=.cons (.ifs (.cmp (.idx (.var 0) (.var 1)) .eq (.s7 35)) (.cons (.uO m8 mx) .nil) mx) .nil
theorem abe:bj H .isin (.int c.toNat) (.bytes jX)=some (bl c):=by show au none (0<=(c.toNat:Int)/\(c.toNat:Int)<256) (some (bl c))=_;have:=c.toNat_lt;exact CG ⟨DO _,by omega⟩
theorem Xg{m:Nat}:ev (af n) (.glob k) m ρ H=.ok (lR k) H:=rfl
theorem abD{l:List UInt8}(h:l<:+o):o.drop (o.length-l.length)=l:=(List.suffix_iff_eq_drop.mp h).symm
theorem ap8{l:List UInt8}(h:o.drop i=l):l<:+o:=h▸KO i o
theorem ro(ho:o.length<100000):∀(m:Nat)(l:List UInt8)(i k:Nat),l.length<=m->o.drop i=l->i<=o.length->l.length<k->dZ (λρ H=>ev (af n) m9 4 ρ H) (λρ H=>CE (af n) qn ρ H) k [.bytes o,.int i] H=
  .ok (.next [.bytes o,.int ((o.length-(sk false l).length:Nat))]) H
 |m,[],i,0,_,h,hi,hk=>by cases hk
 |m,[],i,k+1,_,h,hi,hk=>by have e:i=o.length:=Hg hi (Jb.mp h);rw[W0 (c:=λρ H=>ev (af n) m9 4 ρ H) (ρ:= [.bytes o,.int i]) (db (eV ((km rfl rfl).trans (by rw[Dx (oj e)]))))];rw[e];rfl
 |m,c::l,i,0,_,h,hi,hk=>by cases hk
 |0,c::l,i,k+1,hm,h,hi,hk=>by cases hm
 |m+1,c::l,i,k+1,hm,h,hi,hk=>by
  obtain⟨h1,h2,h3⟩:=qD h;have hl:=CH DI h;rw[Dd,Dc] at hl;have e1:ev (af n) (.cmp (.var 1) .lt (.bi .len (.cons (.var 0) .nil))) 4 [.bytes o,.int i] H=.ok (.bool true) H:=(km rfl rfl).trans (by rw[C5 h3]);have e2:ev (af n) (.cmp (.idx (.var 0) (.var 1)) .isin (.glob 0)) 4 [.bytes o,.int i] H=.ok (.bool (bl c)) H:=aw (jV rfl rfl h1) Xg abe;have e3:ev (af n) (.cmp (.idx (.var 0) (.var 1)) .eq (.s7 35)) 4 [.bytes o,.int i] H=.ok (.bool (c==35)) H:=aw (jV rfl rfl h1) Xi (iG (sR (k:=35)));rw[Dc] at hm hk;rw[oU]
  by_cases q:bl c=true
  ·rw[CG q];rw[q] at e2;have hn:(c==35)=false:=by
    cases zh:c==35 with
    |false=>rfl
    |true=>rw[eq_of_beq zh] at q;revert q;decide
   rw[hn] at e3;exact W1 (db (bV e1 (bV (bW (dk e2)) gC))) (Sc (fN e3 (Sc (aD (am (Xv rfl rfl) Xi rfl)) Sn)) Sn) (ro ho m l (i+1) k (Hh hm) h2 h3 (FG hk))
  ·rw[CJ q];rw[eq_false_of_ne_true q] at e2
   by_cases zh:c=35
   ·clear h1 q;subst zh;rw[CG rfl,apw];have s1:l.dropWhile (·!=10)<:+l:=List.dropWhile_suffix _;have s2:l.dropWhile (·!=10)<:+o:=s1.trans ((Hb 35 l).trans (ap8 h));have e4:=acA (n:=n) (H:=H) (35::l) i 100000 h hi (by rw[Dc];exact akQ ho h3 hl);rw[I7,CG (by decide)] at e4;exact W1 (db (bV e1 (bV (bW (bx e2 (dk e3))) gC))) (Sc (d8 e3 (Sc (mH e4) Sn)) Sn) (ro ho m _ _ k (Nat.le_trans s1.length_le (Hh hm)) (abD s2) (DK _ _) (Nat.lt_of_le_of_lt s1.length_le (FG hk)))
   ·rw[CJ zh];have hn:(c==35)=false:=EG zh;rw[hn] at e3;rw[W0 (n:=k) (f:=λρ H=>CE (af n) qn ρ H) (c:=λρ H=>ev (af n) m9 4 ρ H) (db (bV e1 (eV (bW (bx e2 (bx e3 fS))))))];rw[Dc,show o.length-(l.length+1)=i by exact(hl▸LW (CN h3))]
def dz(o:List UInt8)(i:Nat):Nat:=o.length-(sk false (o.drop i)).length
theorem apA(ho:o.length<100000)(hi:i<=o.length):run (n+1) 11 [.bytes o,.int i] H=.ok (.int (dz o i)) H:=by refine dQ rfl rfl ?_;show CE (af n) (.cons (.uO m9 qn) (.cons (.ret (.var 1)) .nil)) [.bytes o,.int i] H=_;exact Sc (mH (ro ho (o.drop i).length _ i 100000 (Nat.le_refl _) rfl hi (by rw[Dd];exact Nat.lt_of_le_of_lt (DK ..) ho))) (Sr (cR (Xv rfl rfl)))
end
section
variable {o:List UInt8}
noncomputable def abr:PE:=.band (.cons (.cmp (.var 2) .lt (.bi .len (.cons (.var 0) .nil))) (.cons (.cmp (.idx (.var 0) (.var 2)) .ui (.glob 0)) (.cons (.cmp (.idx (.var 0) (.var 2)) .ne (.s7 35)) .nil)))
noncomputable def aem:tQ:=.cons (.assign (.var 2) (.bin .add (.var 2) (.s7 1))) .nil
theorem agu:bj H .ui (.int c.toNat) (.bytes jX)=some (!bl c):=by show(bj H .isin (.int c.toNat) (.bytes jX)).map (!·)=_;rw[abe];rfl
theorem acB{j:AV}:∀(l:List UInt8)(i k:Nat),o.drop i=l->i<=o.length->l.length<k->dZ (λρ H=>ev (af n) abr 4 ρ H) (λρ H=>CE (af n) aem ρ H) k [.bytes o,j,.int i] H=
  .ok (.next [.bytes o,j,.int ((i+(wd l).length:Nat))]) H
 |[],i,0,h,hi,hk=>by cases hk
 |[],i,k+1,h,hi,hk=>by have e:i=o.length:=Hg hi (Jb.mp h);rw[W0 (db (eV ((km rfl rfl).trans (by rw[Dx (oj e)]))))];rfl
 |c::l,i,0,h,hi,hk=>by cases hk
 |c::l,i,k+1,h,hi,hk=>by
  obtain⟨h1,h2,h3⟩:=qD h;have e1:ev (af n) (.cmp (.var 2) .lt (.bi .len (.cons (.var 0) .nil))) 4 [.bytes o,j,.int i] H=.ok (.bool true) H:=(km rfl rfl).trans (by rw[C5 h3]);have e2:ev (af n) (.cmp (.idx (.var 0) (.var 2)) .ui (.glob 0)) 4 [.bytes o,j,.int i] H=.ok (.bool (!bl c)) H:=aw (jV rfl rfl h1) Xg agu;have e3:ev (af n) (.cmp (.idx (.var 0) (.var 2)) .ne (.s7 35)) 4 [.bytes o,j,.int i] H=.ok (.bool (!(c==35))) H:=aw (jV rfl rfl h1) Xi (jl (by rw[HK];exact sR (k:=35)));show _=R.ok (Fl.next [.bytes o,j,.int ((i+(if(bl c||c==35)=true then [] else c::wd l).length:Nat))]) H
  cases q:bl c with
  |true=>rw[q] at e2;exact W0 (db (bV e1 (eV e2)))
  |false=>
   rw[q] at e2
   cases zh:c==35 with
   |true=>rw[zh] at e3;exact W0 (db (bV e1 (bV e2 (eV e3))))
   |false=>rw[zh] at e3;refine(W1 (db (bV e1 (bV e2 (bV e3 gC)))) (Sc (aD (am (Xv rfl rfl) Xi rfl)) Sn) (acB l (i+1) k h2 h3 (FG hk))).trans ?_;rw[CJ (by simp),Dc,CX,En 1]
theorem apB{b:List UInt8}{l u:Int}(h:cg l/\cg u):dA H (AV.bytes b) [AV.int l] [AV.int u] []=.ok (.bytes (cut b l.toNat u.toNat)) H:=by show au R.bad (cg l/\cg u) (R.ok (AV.bytes (cut b l.toNat u.toNat)) H)=_;unfold au;exact CG h
theorem ab1{o:List UInt8}(h:i<=o.length)(ho:o.length<100000):cg (i:Int):=⟨DO i,by unfold ji;exact alp h ho⟩
theorem kO{b:List UInt8}(hi:cg i)(hj:cg j):dA H (.bytes b) [.int i] [.int j] []=.ok (.bytes (cut b i j)) H:=(apB ⟨hi,hj⟩).trans (by rw[DQ,DQ])
theorem qp{b:List UInt8}:cT H .bytes [.bytes b]=.ok (.bytes b) H:=rfl
theorem Xo{m:Nat}(h:ev (af n) e m ρ H=.ok v H1):uc (af n) (.cons e .nil) m ρ H=.ok [v] H1:=ad h aj
theorem sV:∀l:List UInt8,wd l<+:l
 |[]=>Lc
 |c::r=>by
  show(if(bl c||c==35)=true then [] else c::wd r)<+:_
  split
  ·exact Lc
  ·exact List.cons_prefix_cons.mpr ⟨rfl,sV r⟩
def nx(o:List UInt8)(i:Nat):List UInt8×Nat:=(wd (sk false (o.drop i)),dz o i+(wd (sk false (o.drop i))).length)
theorem mv:∀(b:Bool)(l:List UInt8),sk b l<:+l
 |b,[]=>by cases b<;>exact Lg _
 |false,c::r=>by
  rw[oU]
  split
  ·exact(mv false r).trans (Hb _ _)
  ·split
   ·exact(mv true r).trans (Hb _ _)
   ·exact Lg _
 |true,c::r=>by
  rw[aea]
  split
  ·exact(mv false r).trans (Hb _ _)
  ·exact(mv true r).trans (Hb _ _)
theorem oR:o.drop (dz o i)=sk false (o.drop i):=abD ((mv _ _).trans (KO _ _))
theorem sv:dz o i<=o.length:=DK _ _
theorem rC{a:Nat}:((a:Int)==(b:Int))=(a==b):=by
 by_cases h:a=b
 ·subst h;simp
 ·rw[EG h];exact EG λq=>h (Ky q)
theorem aqO(ho:o.length<100000):o.length-dz o i<100000:=by exact Nat.sub_lt_of_lt ho
theorem aqM:dz o i+(wd (sk false (o.drop i))).length<=o.length:=by have h:=(sV (sk false (o.drop i))).length_le;have e:=CH DI (oR (o:=o) (i:=i));have:=sv (o:=o) (i:=i);rw[Dd] at e;exact alq h e this
theorem aqL:cut o (dz o i) (dz o i+(wd (sk false (o.drop i))).length)=wd (sk false (o.drop i)):=by unfold cut;rw[KP,oR,Lu];exact(List.prefix_iff_eq_take.mp (sV _)).symm
theorem W4(ho:o.length<100000)(hi:i<=o.length):exec (af (n+1)) (.assign (.var 1) (.call 11 (.cons (.var 0) (.cons (.var 1) .nil)))) [.bytes o,.int i,.undef] H=.ok (.next [.bytes o,.int (dz o i),.undef]) H:=aD (fR (ad (Xv rfl rfl) (ad (Xv rfl rfl) aj)) (apA ho hi))
theorem W5(ho:o.length<100000):exec (af (n+1)) (.uO abr aem) [.bytes o,.int (dz o i),.int (dz o i)] H=.ok (.next [.bytes o,.int (dz o i),.int (nx o i).2]) H:=mH (acB (sk false (o.drop i)) (dz o i) 100000 oR sv (by rw[<-oR,Dd];exact aqO ho))
theorem aqN(ho:o.length<100000)(hi:i<=o.length)(hw:(nx o i).1≠[]):run (n+2) 12 [.bytes o,.int i] H=.ok (.tup [.bytes (nx o i).1,.int (nx o i).2]) H:=by refine dQ (bd:=mT) rfl rfl ?_;show CE (af (n+1)) mT [.bytes o,.int i,.undef] H=_;have hl:((nx o i).2==dz o i)=false:=EG λe=>hw (KR (Nat.add_left_cancel (e.trans (Il _).symm)));have e:=kO (H:=H) (b:=o) (ab1 (sv (i:=i)) ho) (ab1 (aqM (i:=i)) ho);rw[aqL] at e;exact Sc (W4 ho hi) (Sc (aD (Xv rfl rfl)) (Sc (W5 ho) (Sc (fN (aw (Xv rfl rfl) (Xv rfl rfl) (iG (rC.trans hl))) Sn) (Sr (cR (cq (ad (aM rfl (Xo (fT (Xv rfl rfl) (Xo (Xv rfl rfl)) (Xo (Xv rfl rfl)) aj e)) qp) (Xo (Xv rfl rfl)))))))))
theorem sY(ho:o.length<100000)(hi:i<=o.length)(hw:(nx o i).1=[]):run (n+2) 12 [.bytes o,.int i] H=.exc 1 H:=by
 refine gv rfl rfl ?_;show CE (af (n+1)) mT [.bytes o,.int i,.undef] H=_;have hl:((nx o i).2==dz o i)=true:=by
  have:(nx o i).2=dz o i:=by show dz o i+(nx o i).1.length=_;rw[hw];rfl
  rw[this];exact Du _
 exact Sc (W4 ho hi) (Sc (aD (Xv rfl rfl)) (Sc (W5 ho) (Se (d8 (aw (Xv rfl rfl) (Xv rfl rfl) (iG (rC.trans hl))) (Se (fO rfl))))))
end
inductive W{α:Type}(r:R α)(Q:α->AH->Prop)(E:Nat->AH->Prop):Prop where
 |of {v:α} {H:AH} (h:r=.ok v H) (q:Q v H):W r Q E
 |xA {k:Nat} {H:AH} (h:r=.exc k H) (q:E k H):W r Q E
def bC:Nat->AH->Prop:=λZ Z=>False
section
variable {r:R α}{Q Q':α->AH->Prop}{E':Nat->AH->Prop}{v:α}
theorem W.bind{f:α->AH->R β}{P:β->AH->Prop}(h:W r (λv H=>W (f v H) P E) E):W (r.bind f) P E:=by
 cases h with
 |of h q=>subst h;exact q
 |xA h q=>subst h;exact .xA rfl q
theorem W.ok(h:W r Q bC):∃v H,r=.ok v H/\Q v H:=by
 cases h with
 |of h q=>exact(bR _ _ h q)
 |xA h q=>exact q.elim
theorem W.xc{F:AH->Prop}(h:W r (λZ Z=>False) (λj H=>j=k/\F H)):∃H,r=.exc k H/\F H:=by
 cases h with
 |of h q=>exact q.elim
 |xA h q=>obtain⟨rfl,q⟩:=q;exact(ae _ h q)
theorem W.mono(h:W r Q E)(q:∀v H,Q v H->Q' v H)(e:∀k H,E k H->E' k H):W r Q' E':=by
 cases h with
 |of h i=>exact .of h (q _ _ i)
 |xA h i=>exact .xA h (e _ _ i)
theorem W.eq{w:R α}(h:w=r)(i:W r Q E):W w Q E:=h▸i
end
structure Fr(b m:Nat)(H H':AH):Prop where
 le:H.length<=H'.length
 at':∀p,p<m->p≠b->H'[p]?=H[p]?
section
variable {b m p q:Nat}{o:AO}
theorem Fr.refl:Fr b m H H:=⟨Nat.le_refl _,λZ Z Z=>rfl⟩
theorem Fr.trans(f:Fr b m H H1)(g:Fr b m H1 H2):Fr b m H H2:=⟨Nat.le_trans f.le g.le,λp h e=>(g.at' p h e).trans (f.at' p h e)⟩
theorem Fr.app(h:m<=H.length):Fr b m H (H++l):=⟨by rw[List.length_append];exact Nat.le_add_right _ _,λp h1 Z=>D6 (Nat.lt_of_lt_of_le h1 h)⟩
theorem Fr.put(h:q=b\/m<=q):Fr b m H (H.set q o):=⟨by rw[Jh];exact Nat.le_refl _,λp h1 h2=>DH λe=>by
 subst e;rcases h with h |h
 ·exact h2 h
 ·exact LM h h1⟩
theorem Fr.get(f:Fr b H.length H H1)(hb:p≠b)(h:H[p]?=some o):H1[p]?=some o:=(f.at' p (cD h) hb).trans h
theorem Fr.gt(f:Fr b m H H1)(hm:p<m)(hb:p≠b)(h:H[p]?=some o):H1[p]?=some o:=(f.at' p hm hb).trans h
theorem Fr.less{m':Nat}(f:Fr b m H H1)(h:m'<=m):Fr b m' H H1:=⟨f.le,λp h1 h2=>f.at' p (Nat.lt_of_lt_of_le h1 h) h2⟩
theorem aH{o:AO}(h:H[p]?=some o):(H++l)[p]?=some o:=(D6 (cD h)).trans h
theorem aC:(H++[o])[H.length]?=some o:=FV
theorem Bk.fr(h:Bk b H)(f:Fr p m H H1)(hm:b<m)(hb:b≠p):Bk b H1:=by obtain⟨s,t,h⟩:=h;exact(cK s t (f.gt hm hb h))
theorem Bk.app(h:Bk b H):Bk b (H++l):=by obtain⟨s,t,h⟩:=h;exact(cK s t (aH h))
theorem Bk.lt(h:Bk b H):b<H.length:=by obtain⟨s,t,h⟩:=h;exact cD h
theorem Bk.put(h:Bk b H)(n:q≠b):Bk b (H.set q o):=by obtain⟨s,t,h⟩:=h;exact(cK s t ((DH n).trans h))
theorem acs{o:AO}:(H.set q o).length=H.length:=Jh
end
section
variable {m:Nat}{H3:AH}{b c:PE}{es:ub}{v x y z:AV}{s:PS}{p q:tQ}{t:List Nat}
theorem aK{w:R AV}(h1:uc (af n) es m ρ H=.ok vs H1)(h2:run n k vs H1=w):ev (af n) (.call k es) m ρ H=w:=fR h1 h2
theorem Xs{w:Str}:ev Γ (.tH w) m ρ H=.ok (.str w) H:=rfl
theorem Xy{w:List UInt8}:ev Γ (.s9 w) m ρ H=.ok (.bytes w) H:=rfl
theorem Xb{w:Bool}:ev Γ (.ug w) m ρ H=.ok (.bool w) H:=rfl
theorem mJ:ev Γ .uL m ρ H=.ok (.ref H.length) (H++[.dict []]):=rfl
theorem py{i:Int}(h:ev Γ a m ρ H=.ok (.int i) H1):ev Γ (.neg a) m ρ H=.ok (.int (-i)) H1:=by rw[E1.neg];exact X1 h rfl
theorem afg{w:R AV}(h:ev Γ a m ρ H=.ok x H1)(hp:nN x=true)(k:Γ.C 40 [x] H1=w):ev Γ (.most a) m ρ H=w:=by rw[E1.most];exact X1 h ((CG hp).trans k)
variable {Q:Fl->AH->Prop}
def KK(Γ:Ctx)(ss:tQ)(Q:Fl->AH->Prop)(E:Nat->AH->Prop)(fl:Fl)(H:AH):Prop:=match fl with
 | .next ρ=>W (CE Γ ss ρ H) Q E
 | .ret v=>Q (.ret v) H
theorem gB(h:W (exec Γ s ρ H) (KK Γ ss Q E) E):W (CE Γ (.cons s ss) ρ H) Q E:=by
 rw[E6.cons];refine W.bind (h.mono (λfl H h=>?_) λZ Z h=>h)
 cases fl with
 |next ρ=>exact h
 |ret v=>exact .of rfl h
theorem aG(h:exec Γ s ρ H=.ok (.next ρ') H1)(k:W (CE Γ ss ρ' H1) Q E):W (CE Γ (.cons s ss) ρ H) Q E:=gB (W.of h k)
theorem dF(h:ev Γ a 4 ρ H=.ok v H1)(k:Q (.ret v) H1):W (CE Γ (.cons (.ret a) ss) ρ H) Q E:=gB (W.of (cR h) k)
theorem bA(k:Q (.next ρ) H):W (CE Γ .nil ρ H) Q E:=W.of Sn k
theorem Wx(hd:Γ.hd=false)(h:E k H):W (CE Γ (.cons (.raise k) ss) ρ H) Q E:=gB (W.xA (fO hd) h)
theorem fj{r:Bool}(h:ev Γ a 4 ρ H=.ok (.bool r) H1)(k1:r=true->W (CE Γ p ρ H1) (KK Γ ss Q E) E)(k0:r=false->W (CE Γ q ρ H1) (KK Γ ss Q E) E):W (CE Γ (.cons (.ifs a p q) ss) ρ H) Q E:=by
 refine gB ?_
 cases r with
 |true=>rw[d8 h rfl];exact k1 rfl
 |false=>rw[fN h rfl];exact k0 rfl
theorem fQ(h:ev Γ a 4 ρ H=.ok (.bool false) H1)(k:W (CE Γ ss ρ H1) Q E):W (CE Γ (.cons (.ifs a p .nil) ss) ρ H) Q E:=fj h nofun λZ=>bA k
theorem ab6{item:AH->Nat->Option (Option AV)}{f:AV->aB->AH->R Fl}(I:Nat->aB->AH->Prop)(N:Nat)
  (hs:∀j ρ H,j<N->I j ρ H->∃v,item H j=some (some v)/\W (f v ρ H) (λfl H'=>∃ρ',fl=.next ρ'/\I (j+1) ρ' H') E)
  (he:∀ρ H,I N ρ H->item H N=some none):∀(k j:Nat)(ρ:aB)(H:AH),I j ρ H->j<=N->N-j<k->W (ga item f k j ρ H) (λfl H'=>∃ρ',fl=.next ρ'/\I N ρ' H') E:=by
 intro zi
 induction zi with
 |zero=>
 exact @λZ Z Z Z Z h=>(DX _ h).elim
 |succ k ih=>
 exact @λj ρ H i hj h=>by
  rw[E8.s]
  by_cases e:j=N
  ·clear hs hj h;subst e;rw[he ρ H i];exact .of rfl (ae ρ rfl i)
  ·have zB:=Ei hj e;obtain⟨v,h1,h2⟩:=hs j ρ H zB i;rw[h1];refine W.bind (h2.mono (λfl H' h=>?_) λZ Z h=>h);obtain⟨ρ',rfl,i'⟩:=h;exact ih (j+1) ρ' H' i' zB (adl h e zB)
theorem dj(hd:Γ.hd=false)(hi:ev Γ it 4 ρ H=.ok src H1)(I:Nat->aB->AH->Prop)(N:Nat)(hN:N<=cJ H1 src)(h0:I 0 ρ H1)
  (hs:∀j ρ H (G:Prop) (N':Fl->AH->Prop),j<N->I j ρ H->(∀ρ' H',I (j+1) ρ' H'->N' (.next ρ') H')->(∀v vd,aS H src j=some (some v)->bz H t one v ρ=some vd->W (CE Γ p vd H) N' E->G)->G)
  (he:∀ρ H,I N ρ H->aS H src N=some none) (k:∀ρ H,I N ρ H->W (CE Γ ss ρ H) Q E):W (CE Γ (.cons (.for t one it p) ss) ρ H) Q E:=by
 refine gB ?_;have e:exec Γ (.for t one it p) ρ H=ga (λH j=>aS H src j) (λv ρ H=>match bz H t one v ρ with
    |some ρ=>CE Γ p ρ H
    |none=>.bad) (cJ H1 src+1) 0 ρ H1:=by
  rw[E5.for];rw[hd];exact X1 hi rfl
 rw[e];refine(ab6 I N (λj ρ H hj i=>?_) he _ 0 ρ H1 h0 (DY _) (Eo hN)).mono (λfl H h=>?_) λZ Z h=>h
 ·refine hs j ρ H _ (λfl H'=>∃ρ',fl=.next ρ'/\I (j+1) ρ' H') hj i (λρ' H' x=>⟨ρ',rfl,x⟩) λv vd e1 e2 w=>?_;refine(ae v e1 ?_);rw[e2];exact w
 ·obtain⟨ρ',rfl,i⟩:=h;exact k ρ' H i
theorem abn{item:AH->Nat->Option (Option AV)}{f:AV->AH->R (Option AV)}(I:Nat->List AV->AH->Prop)(N:Nat)
  (hs:∀j acc H,j<N->I j acc H->∃v,item H j=some (some v)/\W (f v H) (λo H'=>I (j+1) (acc++o.toList) H') bC)
  (he:∀acc H,I N acc H->item H N=some none):∀(k j:Nat)(acc:List AV)(H:AH),I j acc H->j<=N->N-j<k->W (dn item f k j acc H) (λxs H'=>I N xs H') E:=by
 intro zi
 induction zi with
 |zero=>
 exact @λZ Z Z Z Z h=>(DX _ h).elim
 |succ k ih=>
 exact @λj acc H i hj h=>by
  rw[Aa.s]
  by_cases e:j=N
  ·clear hs hj h;subst e;rw[he acc H i];exact .of rfl i
  ·have zB:=Ei hj e;obtain⟨v,h1,h2⟩:=hs j acc H zB i;obtain⟨o,H',h3,i'⟩:=h2.ok;rw[h1];dsimp only;rw[h3];exact ih (j+1) _ H' i' zB (adl h e zB)
theorem aak{P:AV->AH->Prop}(hd:(Γ.hd&& !(ff src&&Jg ([]:List AV)&&one))=false)(hi:ev Γ it (m+1) ρ H=.ok src H1)(I:Nat->List AV->AH->Prop)(N:Nat)(hN:N<=cJ H1 src)(h0:I 0 [] H1)
  (hs:∀j acc H,j<N->I j acc H->∃v vd,aS H src j=some (some v)/\bz H t one v ρ=some vd/\∃r H2,tX Γ conds m vd H=.ok (.bool r) H2/\(if r=true then W (ev Γ elt m vd H2) (λx H'=>I (j+1) (acc++[x]) H') bC else I (j+1) acc H2))
  (he:∀acc H,I N acc H->aS H src N=some none) (k:∀acc H,I N acc H->acc.length<=al/\P (.ref H.length) (H++[.list acc])):W (ev Γ (.comp elt t one it .nil conds) (m+1) ρ H) P E:=by
 rw[E1.comp];rw[hi];refine W.bind (W.of rfl ?_);refine W.bind (W.of aj ?_);rw[CJ (by rw[hd];decide)];refine W.bind ((abn I N (λj acc H hj i=>?_) he _ 0 [] H1 h0 (DY _) (Eo hN)).mono (λxs H h=>?_) λZ Z h=>h)
 ·refine o_eeaaee (hs j acc H hj i) λv vd e1 e2 r H2=>r_a λe3 w=>?_;refine(ae v e1 ?_);rw[e2];dsimp only;rw[e3];show W (if r=true then _ else _) _ bC
  cases r with
  |true=>rw[CG rfl] at w⊢;exact W.bind (w.mono (λx H' i=>.of rfl i) λZ Z h=>h)
  |false=>rw[CJ (by decide)] at w⊢;exact .of rfl (by rw[show(none:Option AV).toList=[] from rfl,Dk];exact w)
 ·obtain⟨h1,h2⟩:=k xs H h;unfold cn;rw[CG h1];exact .of rfl h2
theorem iA{P:AV->AH->Prop}(hd:(Γ.hd&& !(ff src&&Jg ([]:List AV)&&one))=false)(hi:ev Γ it (m+1) ρ H=.ok src H1)(I:Nat->List AV->AH->Prop)(N:Nat)(hN:N<=cJ H1 src)(h0:I 0 [] H1)
  (hs:∀j acc H,j<N->I j acc H->∃v vd,aS H src j=some (some v)/\bz H t one v ρ=some vd/\W (ev Γ elt m vd H) (λx H'=>I (j+1) (acc++[x]) H') bC)
  (he:∀acc H,I N acc H->aS H src N=some none) (k:∀acc H,I N acc H->acc.length<=al/\P (.ref H.length) (H++[.list acc])):W (ev Γ (.comp elt t one it .nil .nil) (m+1) ρ H) P E:=by
 refine aak hd hi I N hN h0 (λj acc H hj i=>?_) he k;obtain⟨v,vd,e1,e2,w⟩:=hs j acc H hj i;exact(aiv v vd e1 e2 true H (bE gC w))
theorem mI(hd:(Γ.hd&& !(ff src&&Jg ([]:List AV)&&one))=false)(hi:ev Γ it (m+1) ρ H=.ok src H1){g:AV->AV}(hv:∀j,aS H1 src j=some vs[j]?)(hN:vs.length<=cJ H1 src)
  (hs:∀v,v∈vs->∃vd,bz H1 t one v ρ=some vd/\ev Γ elt m vd H1=.ok (g v) H1) (hl:vs.length<=al):ev Γ (.comp elt t one it .nil .nil) (m+1) ρ H=.ok (.ref H1.length) (H1++[.list (vs.map g)]):=by
 have w:W (ev Γ (.comp elt t one it .nil .nil) (m+1) ρ H) (λv H=>v=.ref H1.length/\H=H1++[.list (vs.map g)]) bC:=by
  refine iA hd hi (λj acc H=>H=H1/\acc=(vs.take j).map g) vs.length hN ⟨rfl,by rfl⟩ (λj acc H hj i=>?_) (λacc H i=>?_) λacc H i=>?_
  ·clear hi hN;obtain⟨rfl,rfl⟩:=i;have hj2:=List.getElem?_eq_getElem hj;obtain⟨vd,e1,e2⟩:=hs vs[j] (FX hj);refine(ax vs[j] vd ((hv j).trans (by rw[hj2])) e1 (W.of e2 ⟨rfl,?_⟩));rw[EW,hj2,Dr];rfl
  ·clear hi hN hs;obtain⟨rfl,rfl⟩:=i;rw[hv];simp
  ·clear hi hv hN hs;obtain⟨rfl,rfl⟩:=i;rw[Fz];exact⟨by rw[List.length_map];exact hl,rfl,rfl⟩
 (obtain⟨v,H',e,zq3,zq4⟩:=w.ok;subst zq3;subst zq4);exact e
end
section
variable {Q:AV->AH->Prop}
theorem dG(f:dJ k=some (np,nv,bd))(l:vs.length=np)(h:W (CE (af n) bd (vs++CK (nv-np) .undef) H) (λfl H'=>match fl with | .ret v=>Q v H' | .next _=>Q .none H') E):W (run (n+1) k vs H) Q E:=by unfold run;rw[f];dsimp only;rw[CG l];refine W.bind (h.mono (λfl H h=>?_) λZ Z h=>h);cases fl<;>exact .of rfl h
end
noncomputable abbrev Bs:=List UInt8
def bS(w:Bs):Bool:= !w.isEmpty&&w.all λc=> !(bl c||c==35)
structure wO(g:Bs):Prop where
 skip:∀x,sk false (g++x)=sk false x
 part:∀k,sk false (g.take k)=[]
 stop:∀x,wd (g++x)=[]
theorem i9{r:Bs}:wd (c::r)=if bl c||c==35 then [] else c::wd r:=rfl
theorem aqJ{r:Bs}(hr:wd r=[]):∀{w:Bs},(w.all λc=> !(bl c||c==35))=true->wd (w++r)=w:=by
 intro zi
 induction zi with
 |nil=>
 exact @λZ=>hr
 |cons c w ih=>
 exact @λh=>by rw[HT,Bool.and_eq_true] at h;rw[GX,i9,CJ (by simpa using h.1),ih h.2]
theorem apx{w r:Bs}(h:bS w=true):sk false (w++r)=w++r:=by
 cases w with
 |nil=>cases h
 |cons c w=>unfold bS at h;rw[Bool.and_eq_true,HT,Bool.and_eq_true] at h;have h2:=h.2.1;rw[Ft,ET] at h2;rw[GX,oU,CJ (by rw[h2.1];decide),CJ (λe=>by rw[e] at h2;exact CI h2.2 (by decide))]
theorem rL{w:Bs}(h:bS w=true)(hk:0<k):bS (w.take k)=true:=by
 cases w with
 |nil=>cases h
 |cons c w=>obtain⟨k,rfl⟩:=Jo (CW hk);unfold bS at h⊢;rw[Bool.and_eq_true] at h⊢;refine⟨rfl,?_⟩;rw[CV] at h⊢;exact λx hx=>h.2 x (Ic hx)
theorem rK{w:Bs}(h:bS w=true):w≠[]:=by rintro rfl;cases h
theorem jE{w:Bs}(h:bS w=true):0<w.length:=Ia.mpr (rK h)
section
variable {o g w r x:Bs}
theorem ag1(h:o.drop i=x)(hx:x≠[]):o.length=i+x.length/\i<=o.length:=by have:=CH DI h;rw[Dd] at this;have:=Ia.mpr hx;exact alr (by assumption) this
theorem ir(h:o.drop i=g++(w++r))(hg:wO g)(hw:bS w=true)(hr:wd r=[]):nx o i=(w,i+(g.length+w.length))/\i<=o.length/\i+(g.length+w.length)<=o.length/\o.drop (i+(g.length+w.length))=r:=by
 have e:sk false (o.drop i)=w++r:=by rw[h,hg.skip,apx hw]
 obtain⟨l1,l2⟩:=ag1 h (by simp[rK hw]);unfold bS at hw;rw[Bool.and_eq_true] at hw;rw[List.length_append,List.length_append] at l1;refine(bY ?_ l2 (als l1) ?_)
 ·unfold nx dz;rw[e,aqJ hr hw.2,List.length_append];exact CH (Prod.mk w) (alu l1)
 ·rw[<-Ja,h,<-List.append_assoc,<-List.length_append,KN]
theorem rI(h:sk false (o.drop i)=[]):(nx o i).1=[]:=by show wd (sk false (o.drop i))=[];rw[h];rfl
theorem kY(ho:o.length<100000)(h:o.drop i=g++(w++r))(hg:wO g)(hw:bS w=true)(hr:wd r=[]):run (n+2) 12 [.bytes o,.int i] H=.ok (.tup [.bytes w,.int ((i+(g.length+w.length):Nat))]) H:=by obtain⟨e,l,_⟩:=ir h hg hw hr;have:=aqN (n:=n) (H:=H) ho l (by rw[e];exact rK hw);rw[e] at this;exact this
end
noncomputable def aQ:Bs:= [69,78,68,72,68,82]
noncomputable def bX:Bs:= [84,85,80,76,84,89,80,69]
def rd(k:Bs):Bool:=aW==k||(aV==k||(aZ==k||(aU==k||false)))
def dr(k:Bs):Bool:=rd k||k==bX
section
variable {o:Bs}
theorem ajz{k:Bs}:bj H .ui (.bytes k) (.tup lZ)=some (!rd k):=rfl
theorem abA{es:List (Bs×AV)}:du (H++[.dict es]) H.length=some es:=by unfold du;rw[aC]
theorem ajB{es:List (Bs×AV)}{k:Bs}:kn (H++[.dict es]) (.bytes k) (.ref H.length)=some (es.any λe=>e.1==k):=by show aJ none (du (H++[.dict es]) H.length) _=_;rw[abA];rfl
theorem jm{a b:Bs}{r:Bool}(h:(a==b)= !r):bj H .ne (.bytes a) (.bytes b)=some r:=by show some (!(a==b))=_;rw[h,HK]
theorem ap1{es:List (Bs×AV)}{k:Bs}(h:(es.any λe=>e.1==k)=false)(hl:es.length<=1000):gZ (H++[.dict es]) (.ref H.length) (.bytes k) v=some (H++[.dict (es++[(k,v)])]):=by
 show aJ none (du (H++[.dict es]) H.length) _=_;rw[abA];show(if _ then _ else _)=_
 rw[CJ (by rw[h,Gl];exact λe=>CI (Do e) (LM hl))];congr 1;rw[Le _ _ (Nat.le_refl _),FH];rfl
noncomputable def abq:PE:=.cmp (.var 2) .ne (.s9 [69,78,68,72,68,82])
noncomputable def sL:PE:=.bor (.cons (.cmp (.var 2) .isin (.var 1)) (.cons (.band (.cons (.cmp (.var 2) .ui (.glob 2)) (.cons (.cmp (.var 2) .ne (.s9 [84,85,80,76,84,89,80,69])) .nil))) .nil))
def af1:tQ:=.cons (.ifs sL (.cons (.raise 2) .nil) .nil) (.cons (.assign (.tup [4,3]) (.call 12 (.cons (.var 0) (.cons (.var 3) .nil)))) (.cons (.assign (.sub (.var 1) (.var 2)) (.var 4)) (.cons (.assign (.tup [2,3]) (.call 12 (.cons (.var 0) (.cons (.var 3) .nil)))) .nil)))
abbrev iU(n:Nat):=dZ (λρ H=>ev (af (n+2)) abq 4 ρ H) (λρ H=>CE (af (n+2)) af1 ρ H)
noncomputable def tab(es:List (Bs×Bs)):AO:=.dict (es.map λe=>(e.1,AV.bytes e.2))
noncomputable def c7(es:List (Bs×Bs))(k:Bs):Bool:=es.any λe=>e.1==k
theorem sU{es:List (Bs×Bs)}{k:Bs}:((es.map λe=>(e.1,AV.bytes e.2)).any λe=>e.1==k)=c7 es k:=by unfold c7;rw[List.any_map];rfl
theorem lI{nm:Bs}{a b c:AV}{r:Bool}(h:(nm==aQ)= !r):ev (af (n+2)) abq 4 [.bytes o,a,.bytes nm,b,c] H=.ok (.bool r) H:=aw (Xv rfl rfl) Xy (jm h)
theorem aeC{nm:Bs}{es:List (Bs×Bs)}{b c:AV}:ev (af (n+2)) sL 4 [.bytes o,.ref H.length,.bytes nm,b,c] (H++[tab es])=.ok (.bool (c7 es nm|| !dr nm)) (H++[tab es]):=by
 have e1:ev (af (n+2)) (.cmp (.var 2) .isin (.var 1)) 4 [.bytes o,.ref H.length,.bytes nm,b,c] (H++[tab es])=.ok (.bool (c7 es nm)) (H++[tab es]):=aw (Xv rfl rfl) (Xv rfl rfl) (ajB.trans (CH some sU));have e2:ev (af (n+2)) (.cmp (.var 2) .ui (.glob 2)) 4 [.bytes o,.ref H.length,.bytes nm,b,c] (H++[tab es])=.ok (.bool (!rd nm)) (H++[tab es]):=aw (Xv rfl rfl) Xg ajz;have e3:ev (af (n+2)) (.cmp (.var 2) .ne (.s9 [84,85,80,76,84,89,80,69])) 4 [.bytes o,.ref H.length,.bytes nm,b,c] (H++[tab es])=.ok (.bool (!(nm==bX))) (H++[tab es]):=aw (Xv rfl rfl) Xy (jm (by rw[HK];rfl));unfold dr;revert e1 e2 e3
 cases c7 es nm with
 |true=>exact λe1 Z Z=>bW (dk e1)
 |false=>
  cases rd nm with
  |true=>exact λe1 e2 Z=>bW (bx e1 (bx (db (eV e2)) fS))
  |false=>
   cases nm==bX with
   |true=>exact λe1 e2 e3=>bW (bx e1 (bx (db (bV e2 (eV e3))) fS))
   |false=>exact λe1 e2 e3=>bW (bx e1 (dk (db (bV e2 (bV e3 gC)))))
end
variable {T ws es:List (Bs×Bs)}{g o rest nm:Bs}
abbrev d7:=Bs×Bs×Bs×Bs
noncomputable def dt:List d7->Bs->Bs
 |[],r=>r
 |(g,v,g',m)::q,r=>g++(v++(g'++(m++dt q r)))
noncomputable def eK:List d7->Nat
 |[]=>0
 |(g,v,g',m)::q=>g.length+v.length+(g'.length+m.length)+eK q
noncomputable def gS:List d7->Bs->List (Bs×Bs)->Prop
 |[],nm,_=>nm=aQ
 |(g,v,g',m)::q,nm,es=>dr nm=true/\c7 es nm=false/\es.length<=900/\wO g/\bS v=true/\wO g'/\bS m=true/\gS q m (es++[(nm,v)])
noncomputable def kH:List d7->Bs->List (Bs×Bs)
 |[],_=>[]
 |(_,v,_,m)::q,nm=>(nm,v)::kH q m
noncomputable def ez:List d7->List (Bs×Bs)
 |[]=>[]
 |(g,v,g',m)::q=>(g,v)::(g',m)::ez q
noncomputable def cU:Bool->List (Bs×Bs)->Nat->Bool
 |_,[],_=>false
 |e,(g,w)::ts,s=>if s<g.length+w.length then e&&decide (g.length<s) else cU (!e) ts (s-(g.length+w.length))
theorem nQ{v g' m:Bs}{q:List d7}:eK ((g,v,g',m)::q)=g.length+v.length+(g'.length+m.length)+eK q:=rfl
theorem iH{e:Bool}{w:Bs}{ts:List (Bs×Bs)}(h:s<g.length+w.length):cU e ((g,w)::ts) s=(e&&decide (g.length<s)):=CG h
theorem j8{e:Bool}{w:Bs}{ts:List (Bs×Bs)}(h:¬s<g.length+w.length):cU e ((g,w)::ts) s=cU (!e) ts (s-(g.length+w.length)):=CJ h
theorem qS{m:Bs}(h:dr m=true\/m=aQ):m∈[aW,aV,aZ,aU,bX,aQ]:=by
 rcases h with h |rfl
 ·unfold dr rd at h;simp only[Ez,C9,Gn] at h;rcases h with(rfl |rfl |rfl |rfl) |rfl<;>simp
 ·simp
theorem an7:(([aW,aV,aZ,aU,bX,aQ].all λm=>(CL m.length).all λk=>k==0||(!dr (m.take k)&& !(m.take k==aQ)))=true):=by decide
theorem adJ{m:Bs}(h:dr m=true\/m=aQ)(h0:0<k)(hk:k<m.length):dr (m.take k)=false/\(m.take k==aQ)=false:=by have:=CV.mp (CV.mp an7 m (qS h)) k (Fj.mpr hk);rw[EG (CW h0),Gl,Bool.and_eq_true,Ft,Ft] at this;exact this
theorem nf{m:Bs}(h:dr m=true):(m==aQ)=false:=EG λe=>by subst e;exact CI h (by decide)
theorem ac3:∀{q:List d7}{nm:Bs}{es:List (Bs×Bs)},gS q nm es->dr nm=true\/nm=aQ:=by
 intro zi
 induction zi with
 |nil=>
 exact @λZ Z h=>.inr h
 |cons Z Z ih=>
 exact @λZ Z h=>.inl h.1
section
variable {v g' m r:Bs}{a:AV}
theorem qo(h1:c7 es nm=false)(h2:dr nm=true):exec (af (n+2)) (.ifs sL (.cons (.raise 2) .nil) .nil) [.bytes o,.ref H.length,.bytes nm,.int i,a] (H++[tab es])=.ok (.next [.bytes o,.ref H.length,.bytes nm,.int i,a]) (H++[tab es]):=fN (aeC.trans (by rw[h1,h2];rfl)) Sn
theorem aep(h1:c7 es nm=false)(hl:es.length<=900):gZ (H++[tab es]) (.ref H.length) (.bytes nm) (.bytes v)=some (H++[tab (es++[(nm,v)])]):=by have:=ap1 (H:=H) (v:=.bytes v) (sU.trans h1) (by rw[List.length_map];exact Nat.le_trans hl (by decide));refine this.trans ?_;unfold tab;rw[Dr];rfl
theorem We{c:aB->AH->R AV}{f:aB->AH->R Fl}(h1:c ρ H=.ok (.bool true) H1)(h2:f ρ H1=.exc j H2):dZ c f (n+1) ρ H=.exc j H2:=by rw[E9.s];exact X1 h1 (X2 h2)
theorem sQ(ho:o.length<100000)(h:o.drop i=g++(v++(g'++(m++r))))(hg:wO g)(hv:bS v=true)(wR:wO g')(hm:bS m=true)(hr:wd r=[])(h1:c7 es nm=false)(h2:dr nm=true)(hl:es.length<=900):
  iU n (k+1) [.bytes o,.ref H.length,.bytes nm,.int i,a] (H++[tab es])=iU n k [.bytes o,.ref H.length,.bytes m,.int ((i+(g.length+v.length)+(g'.length+m.length):Nat)),.bytes v] (H++[tab (es++[(nm,v)])]):=by
 have e:=(ir h hg hv (wR.stop _)).2.2.2;exact W1 (lI (nf h2)) (Sc (qo h1 h2) (Sc (dE rfl (fR (ad (Xv rfl rfl) (ad (Xv rfl rfl) aj)) (kY ho h hg hv (wR.stop _))) rfl)
  (Sc (lp (Xv rfl rfl) (Xv rfl rfl) (Xv rfl rfl) (aep h1 hl)) (Sc (dE rfl (fR (ad (Xv rfl rfl) (ad (Xv rfl rfl) aj)) (kY ho e wR hm hr)) rfl) Sn)))) rfl
theorem aqt(ho:o.length<100000)(hi:i<=o.length)(h:sk false (o.drop i)=[])(h1:c7 es nm=false)(h2:dr nm=true):
  iU n (k+1) [.bytes o,.ref H.length,.bytes nm,.int i,a] (H++[tab es])=.exc 1 (H++[tab es]):=
 We (lI (nf h2)) (Sc (qo h1 h2) (Se (by rw[E5.assign];exact X2 (fR (ad (Xv rfl rfl) (ad (Xv rfl rfl) aj)) (sY ho hi (rI h))))))
theorem aeE(ho:o.length<100000)(h:o.drop i=g++(v++r))(hg:wO g)(hv:bS v=true)(hr:wd r=[])(hr':sk false r=[])(h1:c7 es nm=false)(h2:dr nm=true)(hl:es.length<=900):
  iU n (k+1) [.bytes o,.ref H.length,.bytes nm,.int i,a] (H++[tab es])=.exc 1 (H++[tab (es++[(nm,v)])]):=by
 obtain⟨_,_,l,e⟩:=ir h hg hv hr;exact We (lI (nf h2)) (Sc (qo h1 h2) (Sc (dE rfl (fR (ad (Xv rfl rfl) (ad (Xv rfl rfl) aj)) (kY ho h hg hv hr)) rfl)
  (Sc (lp (Xv rfl rfl) (Xv rfl rfl) (Xv rfl rfl) (aep h1 hl)) (Se (by rw[E5.assign];exact X2 (fR (ad (Xv rfl rfl) (ad (Xv rfl rfl) aj)) (sY ho l (rI (by rw[e];exact hr')))))))))
theorem aeF(h1:dr nm=false)(h2:(nm==aQ)=false):
  iU n (k+1) [.bytes o,.ref H.length,.bytes nm,.int i,a] (H++[tab es])=.exc 2 (H++[tab es]):=
 We (lI h2) (Se (d8 (aeC.trans (by rw[h1,Bool.not_false,FQ])) (Se (fO rfl))))
theorem aqs:iU n (k+1) [.bytes o,.ref H.length,.bytes aQ,.int i,a] (H++[tab es])=.ok (.next [.bytes o,.ref H.length,.bytes aQ,.int i,a]) (H++[tab es]):=W0 (lI (by decide))
end
section
theorem aeG(ho:o.length<100000){r:Bs}(hr:wd r=[]):∀(q:List d7)(nm:Bs)(es:List (Bs×Bs))(i k:Nat)(a:AV),gS q nm es->o.drop i=dt q r->q.length<k->
  ∃a',iU n k [.bytes o,.ref H.length,.bytes nm,.int i,a] (H++[tab es])=.ok (.next [.bytes o,.ref H.length,.bytes aQ,.int ((i+eK q:Nat)),a']) (H++[tab (es++kH q nm)])
 |[],nm,es,i,0,a,_,_,hk=>(DX _ hk).elim
 |[],nm,es,i,k+1,a,hq,h,hk=>by obtain rfl:=hq;exact⟨a,aqs.trans (by rw[show kH [] aQ=[] from rfl,Dk];rfl)⟩
 |(g,v,g',m)::q,nm,es,i,0,a,_,_,hk=>(DX _ hk).elim
 |(g,v,g',m)::q,nm,es,i,k+1,a,hq,h,hk=>by
  (revert hq;refine r_aaaaaa λf u hl hg hv wR=>r_a λhm hq=>?_);have hs:wd (dt q r)=[]:=by
   cases q with
   |nil=>exact hr
   |cons x q=>clear h hk;obtain⟨a1,a2,a3,a4⟩:=x;exact hq.2.2.2.1.stop _
  obtain⟨a',e⟩:=aeG ho hr q m _ (i+(g.length+v.length)+(g'.length+m.length)) k (.bytes v) hq (ir (ir h hg hv (wR.stop _)).2.2.2 wR hm hs).2.2.2 (FG hk);refine⟨a',(sQ ho h hg hv wR hm hs u f hl).trans (e.trans ?_)⟩;rw[List.append_assoc,show i+(g.length+v.length)+(g'.length+m.length)+eK q=i+eK ((g,v,g',m)::q) by rw[nQ];exact alw];rfl
theorem jM{a b:Bs}(h:s<=a.length):(a++b).take s=a.take s:=List.take_append_of_le_length h
theorem i8{a b:Bs}(h:a.length<=s):(a++b).take s=a++b.take (s-a.length):=by rw[Lh,EB h]
theorem ai8:∀{q:List d7}{r:Bs},(dt q r).length=eK q+r.length:=by
 intro zi
 induction zi with
 |nil=>
 exact @λr=>(EO _).symm
 |cons zp q ih=>
 obtain⟨g,v,g',m⟩:=zp;exact @λr=>by have:=ih (r:=r);show(g++(v++(g'++(m++dt q r)))).length=g.length+v.length+(g'.length+m.length)+eK q+r.length;simp only[List.length_append,this];exact alx
theorem aeH(ho:o.length<100000):∀(q:List d7)(nm:Bs)(es:List (Bs×Bs))(i k s:Nat)(a:AV),gS q nm es->o.drop i=(dt q []).take s->i<=o.length->s<eK q->q.length<k->
  ∃o':AO,iU n k [.bytes o,.ref H.length,.bytes nm,.int i,a] (H++[tab es])=.exc (if cU false (ez q) s=true then 2 else 1) (H++[o'])
 |[],nm,es,i,k,s,a,_,_,_,hs,_=>(DX _ hs).elim
 |(g,v,g',m)::q,nm,es,i,0,s,a,_,_,_,_,hk=>(DX _ hk).elim
 |(g,v,g',m)::q,nm,es,i,k+1,s,a,hq,h,hi,hs,hk=>by
  (revert hq;refine r_aaaaaa λf u hl hg hv wR=>r_a λhm hq=>?_);have pv:=jE hv;have pm:=jE hm;show ∃o':AO,_=R.exc (if cU false ((g,v)::(g',m)::ez q) s=true then 2 else 1) (H++[o'])
  change o.drop i=(g++(v++(g'++(m++dt q [])))).take s at h
  by_cases c1:s<=g.length
  ·rw[jM c1] at h;rw[iH (show s<g.length+v.length by exact Nat.lt_of_le_of_lt c1 (Hi pv))];exact⟨_,aqt ho hi (by rw[h];exact hg.part s) u f⟩
  have c1':g.length<=s:=by exact GE c1
  rw[i8 c1'] at h
  by_cases c2:s-g.length<=v.length
  ·rw[jM c2] at h;have hd:=aeE (n:=n) (H:=H) (k:=k) (a:=a) ho (by rw[h,Dk]) hg (rL hv (show 0<s-g.length by exact E0 (EY c1))) rfl rfl u f hl;have e:cU false ((g,v)::(g',m)::ez q) s=false:=by
    by_cases c3:s<g.length+v.length
    ·rw[iH c3];rfl
    ·rw[j8 c3,iH (aly pm c1 c2 c3),Dx (alz c1 c2 c3)];rfl
   rw[e];exact⟨_,hd⟩
  rw[i8 (GE c2)] at h;rw[j8 (show ¬s<g.length+v.length by exact Ep.mpr (CN (Lo (EY c2))))]
  by_cases c3:s-g.length-v.length<=g'.length
  ·rw[jM c3] at h;rw[iH (alA pm c3),Dx (alB c3)];refine⟨_,aeE ho h hg hv ?_ (wR.part _) u f hl⟩;have w:=wR.stop [];rw[Dk] at w;(revert w;refine cX g' λgg hgg w=>?_)
   cases gg with
   |nil=>rw[GA];rfl
   |cons c gg=>
    rw[i9] at w
    cases s-g.length-v.length with
    |zero=>rfl
    |succ j=>
     rw[Hf,i9]
     split at w
     ·rw[CG ‹_›]
     ·cases w
  rw[i8 (GE c3)] at h
  by_cases c4:s-g.length-v.length-g'.length<m.length
  ·rw[jM (CN c4)] at h;rw[iH (alC c3 c4),C5 (alD c3)];obtain⟨p1,p2⟩:=adJ (ac3 hq) (show 0<s-g.length-v.length-g'.length by exact E0 (EY c3)) c4;have BY:=rL hm (show 0<s-g.length-v.length-g'.length by exact E0 (EY c3))
   cases k with
   |zero=>exact(DX _ (FG hk)).elim
   |succ k=>exact⟨_,(sQ (r:= []) ho (by rw[h,Dk]) hg hv wR BY rfl u f hl).trans (aeF p1 p2)⟩
  ·rw[i8 (Dj c4)] at h;rw[j8 (alE pm c3 c4),show s-(g.length+v.length)-(g'.length+m.length)=s-g.length-v.length-g'.length-m.length by exact alF];have za:wd ((dt q []).take (s-g.length-v.length-g'.length-m.length))=[]:=by
    cases q with
    |nil=>rw[show dt [] []=[] from rfl,GA];rfl
    |cons x q=>
     clear hs hk h;obtain⟨a1,a2,a3,a4⟩:=x;have w:=hq.2.2.2.1.stop (a2++(a3++(a4++dt q [])));change wd ((a1++(a2++(a3++(a4++dt q [])))).take _)=[];(revert w;refine gn (a1++(a2++(a3++(a4++dt q [])))) λl w=>?_)
     cases l with
     |nil=>rw[GA];rfl
     |cons c gg=>
      rw[i9] at w
      cases s-g.length-v.length-g'.length-m.length with
      |zero=>rfl
      |succ j=>
       rw[Hf,i9]
       split at w
       ·rw[CG ‹_›]
       ·cases w
   have e:=ir (ir h hg hv (wR.stop _)).2.2.2 wR hm za;obtain⟨H',e'⟩:=aeH ho q m (es++[(nm,v)]) (i+(g.length+v.length)+(g'.length+m.length)) k (s-g.length-v.length-g'.length-m.length) (.bytes v) hq e.2.2.2 e.2.2.1 (by rw[nQ] at hs;exact anQ hs pm c4) (FG hk);exact⟨H',(sQ ho h hg hv wR hm za u f hl).trans e'⟩
end
noncomputable def aq:Bs:= [80,55]
section
variable {g0 n0 r:Bs}{q:List d7}
theorem sE(hq:gS q n0 [])(hr:wd r=[]):wd (dt q r)=[]:=by
 cases q with
 |nil=>exact hr
 |cons x q=>obtain⟨a1,a2,a3,a4⟩:=x;exact hq.2.2.2.1.stop _
theorem ai9:∀{q:List d7}{nm:Bs}{es:List (Bs×Bs)},gS q nm es->q.length<=eK q:=by
 intro zi
 induction zi with
 |nil=>
 exact @λZ Z Z=>Nat.le_refl _
 |cons zp q ih=>
 obtain⟨g,v,g',m⟩:=zp;exact @λnm es h=>by have:=ih h.2.2.2.2.2.2.2;have p:=jE h.2.2.2.2.1;rw[nQ,Dc];exact alG this p
theorem aif(ho:o.length<100000)(h:o.drop 2=g0++(n0++dt q r))(hg:wO g0)(hn:bS n0=true)(hr:wd r=[])(hq:gS q n0 []):
  run (n+3) 16 [.bytes o] H=.ok (.tup [.ref H.length,.int ((2+(g0.length+n0.length)+eK q:Nat))]) (H++[tab (kH q n0)]):=by
 have e:=ir h hg hn (sE hq hr);have hl:q.length<100000:=by have l:=ai9 hq;have:=CH DI e.2.2.2;rw[ai8,Dd] at this;exact anP l this ho
 obtain⟨a',t⟩:=aeG ho hr q n0 [] (2+(g0.length+n0.length)) 100000 .undef hq e.2.2.2 hl;refine dQ rfl rfl ?_;show CE (af (n+2)) mU [.bytes o,.undef,.undef,.undef,.undef] H=_;exact Sc (aD mJ) (Sc (dE rfl (fR (ad (Xv rfl rfl) (ad Xi aj)) (kY ho h hg hn (sE hq hr))) rfl) (Sc (mH t) (Sr (cR (cq (ad (Xv rfl rfl) (ad (Xv rfl rfl) aj)))))))
theorem aih(ho:o.length<100000)(h2:2<=o.length)(h:o.drop 2=(g0++(n0++dt q [])).take s)(hg:wO g0)(hn:bS n0=true)(hq:gS q n0 [])(hs:s<g0.length+n0.length+eK q)(hl:q.length<100000):
  ∃o':AO,run (n+3) 16 [.bytes o] H=.exc (if cU true ((g0,n0)::ez q) s=true then 2 else 1) (H++[o']):=by
 suffices k:∃o':AO,CE (af (n+2)) mU [.bytes o,.undef,.undef,.undef,.undef] H=.exc (if cU true ((g0,n0)::ez q) s=true then 2 else 1) (H++[o']) from by
  obtain⟨H',k⟩:=k;exact⟨H',gv (np:=1) (nv:=5) (bd:=mU) rfl rfl k⟩
 have pn:=jE hn
 by_cases c1:s<=g0.length
 ·rw[jM c1] at h;rw[iH (Nat.lt_of_le_of_lt c1 (Hi pn)),Dx (Ep.mpr c1)];exact⟨_,Sc (aD mJ) (Se (by rw[E5.assign];exact X2 (fR (ad (Xv rfl rfl) (ad Xi aj)) (sY (i:=2) ho h2 (rI (by rw[h];exact hg.part s))))))⟩
 rw[i8 (GE c1)] at h
 by_cases c2:s-g0.length<n0.length
 ·rw[jM (CN c2)] at h;rw[iH ((Gb (Fm c1)).mp c2),C5 (EY c1)];obtain⟨p1,p2⟩:=adJ (ac3 hq) (show 0<s-g0.length by exact E0 (EY c1)) c2;have BY:=rL hn (show 0<s-g0.length by exact E0 (EY c1));exact⟨_,Sc (aD mJ) (Sc (dE rfl (fR (ad (Xv rfl rfl) (ad Xi aj)) (kY (i:=2) (r:= []) ho (by rw[h,Dk]) hg BY rfl)) rfl) (Se (by rw[E5.uO];exact aeF (k:=99999) (es:= []) p1 p2)))⟩
 ·rw[i8 (Dj c2)] at h;rw[j8 (Ep.mpr (Nat.add_le_of_le_sub' (Fm c1) (Dj c2))),Nat.sub_add_eq];have za:wd ((dt q []).take (s-g0.length-n0.length))=[]:=by
   have w:=sE (r:= []) hq rfl;(revert w;refine gn (dt q []) λl w=>?_)
   cases l with
   |nil=>rw[GA];rfl
   |cons c gg=>
    rw[i9] at w
    cases s-g0.length-n0.length with
    |zero=>rfl
    |succ j=>
     rw[Hf,i9]
     split at w
     ·rw[CG ‹_›]
     ·cases w
  have e:=ir h hg hn za;obtain⟨H',e'⟩:=aeH ho q n0 [] (2+(g0.length+n0.length)) 100000 (s-g0.length-n0.length) .undef hq e.2.2.2 e.2.2.1 (alH hs c1 c2) hl;exact⟨H',Sc (aD mJ) (Sc (dE rfl (fR (ad (Xv rfl rfl) (ad Xi aj)) (kY (n:=n) (i:=2) ho h hg hn za)) rfl) (Se (by rw[E5.uO];exact e')))⟩
end
noncomputable def iS(w:Bs):Bool:=w.all λc=>decide (48<=(c.toNat:Int))&&decide ((c.toNat:Int)<=57)
noncomputable def dec(w:Bs):Int:=w.foldl (λa c=>a*10+c.toNat-48) 0
section
theorem af2:∀{l:List α},bools (l.map λZ=>AV.bool true)=some (l.map λZ=>true):=by
 intro zi
 induction zi with
 |nil=>
 exact rfl
 |cons x l ih=>
 exact by
  show(some true).bind (λx=>(bools (l.map λZ=>AV.bool true)).map (x::·))=_;rw[ih];rfl
theorem aan{l:List α}:pM (H++[.list (l.map λZ=>AV.bool true)]) [.ref H.length]=.ok (.bool true) (H++[.list (l.map λZ=>AV.bool true)]):=by
 show aJ R.bad (az _ H.length) _=_;rw[bq aC];show aJ R.bad (bools _) _=_;rw[af2];show R.ok (AV.bool ((l.map λZ=>true).all id)) _=_;have e:((l.map λZ=>true).all id)=true:=by rw[IV];exact CV.mpr λZ Z=>rfl
 rw[e]
theorem eY{r:Bool}(h:decide (x<=y)=r):bj H .le (.int x) (.int y)=some r:=by rw[<-h];rfl
theorem lG{r:Bool}(h:decide (y<=x)=r):bj H .ge (.int x) (.int y)=some r:=by rw[<-h];rfl
theorem rh{w:Bs}:aS H (.bytes w) j=some ((w.map λc=>AV.int c.toNat)[j]?):=by rw[C8];rfl
theorem aka{w:Bs}(hw:iS w=true)(hl:w.length<=9):∃x,run (n+1) 13 [.bytes w] H=.ok (.int (dec w)) (H++[x]):=by
 have hc:ev (af n) (.comp (.uE (.s7 48) .le (.var 3) .le (.s7 57)) [3] true (.var 0) .nil .nil) 4 [.bytes w,.undef,.undef,.undef] H=.ok (.ref H.length) (H++[.list ((w.map λc=>AV.int c.toNat).map λZ=>.bool true)]):=by refine mI rfl (Xv rfl rfl) (λj=>rh) (by rw[List.length_map];exact Nat.le_refl _) (λv hv=>?_) (by rw[List.length_map];unfold al;exact alI hl);(obtain⟨c,hc,zq2⟩:=Dt.mp hv;clear hv;subst zq2);have:=CV.mp hw c hc;rw[Bool.and_eq_true] at this;exact(ae ([.bytes w,.undef,.undef,.int c.toNat]) rfl (jP Xi (Xv rfl rfl) (eY this.1) Xi (eY this.2) rfl))
 have w:=dG (k:=13) (np:=1) (nv:=4) (bd:=qe) (vs:= [.bytes w]) (Q:=λv H'=>v=.int (dec w)/\H'=H++[.list ((w.map λc=>AV.int c.toNat).map λZ=>.bool true)]) (E:=bC) rfl rfl (by
  show W (CE (af n) qe [.bytes w,.undef,.undef,.undef] H) _ _;refine fQ (bW (bx (aw (aM rfl (ad (Xv rfl rfl) aj) EH) Xg (eW (Dx (alJ hl)))) (bx (iB (r:=true) (aM rfl (ad hc aj) aan)) fS))) ?_;refine aG (aD Xi) (dj rfl (Xv rfl rfl) (λj ρ H'=>H'=H++[.list ((w.map λc=>AV.int c.toNat).map λZ=>.bool true)]/\∃a,ρ=[.bytes w,a,.int (dec (w.take j)),.undef]) w.length (Nat.le_refl _) (ke rfl _ rfl) (λj ρ H' Gq Nq hj i uF kq=>?_) (λρ H' i=>?_) λρ H' i=>?_)
  ·(revert i;refine r_ae λzq0 a zq2=>?_;subst zq0;subst zq2);refine(kq (.int (w[j]).toNat) _ ?_ rfl (aG (aD (am (am (am (Xv rfl rfl) Xi (fG (.inr (by decide)))) (Xv rfl rfl) rfl) Xi rfl)) (bA (uF _ _ (ke rfl (.int (w[j]).toNat) ?_)))))
   ·rw[rh,C8,List.getElem?_eq_getElem hj];rfl
   ·have:dec (w.take (j+1))=dec (w.take j)*10+(w[j]).toNat-48:=by
     unfold dec;rw[EW,List.getElem?_eq_getElem hj,KX];rfl
    rw[this];rfl
  ·rw[rh,Dq (by rw[List.length_map];exact Nat.le_refl _)]
  ·(revert i;refine r_ae λzq0 a zq2=>?_;subst zq0;subst zq2);rw[Fz];exact dF (Xv rfl rfl) ⟨rfl,rfl⟩)
 (obtain⟨v,H',e,zq3,zq4⟩:=w.ok;subst zq3;subst zq4);exact⟨_,e⟩
theorem afX:((CL 17).all λp=>decide (p<2)||decide (fk (2^p-1)=p))=true:=by decide
theorem aon(h:2<=p/\p<=16):run (n+1) 14 [.int (2^p-1)] H=.ok (.int p) H:=by
 have hb:=CV.mp afX p (Fj.mpr (Eo h.2));rw[Ez,C3,C3] at hb;have hb:=hb.resolve_left (alK h);have pos:(0:Int)<2^p:=Int.pow_pos (by decide);have e1:dW H .tZ (.int (2^p-1)) []=.ok (.int p) H:=by show au R.bad (0<=(2^p-1:Int)) _=_;unfold au;rw[CG (HR pos),hb]
 have e2:dc .pow (.int 2) (.int p) H=.ok (.int (2^p)) H:=by show au R.bad (0<=(p:Int)/\(p:Int)<=1000/\(2:Int).natAbs<cI) _=_;unfold au;rw[CG ⟨by exact alL h hb,by exact alM h hb,by decide⟩,DQ]
 refine dQ rfl rfl ?_;show CE (af n) qg [.int (2^p-1),.undef] H=_;refine Sc (aD (cS rfl (Xv rfl rfl) rfl aj e1)) (Sc (fN (bW (bx (iB (jP Xi (Xv rfl rfl) (eY (C5 (alN h hb))) Xi (eY (C5 (alO h hb))) rfl))
  (bx (aw (Xv rfl rfl) (am (am Xi (Xv rfl rfl) e2) Xi rfl) (jl (Du _))) fS))) Sn) (Sr (cR (Xv rfl rfl))))
theorem aom{M:Int}(h:M∈[0,1,131071,2,6,254,65534]):run (n+1) 14 [.int M] H=.exc 2 H:=by
 have g:∀b:Nat,fk M=b->0<=M->(¬(2<=b/\b<=16))\/((2<=b/\b<=16)/\(M==2^b-1)=false)->run (n+1) 14 [.int M] H=.exc 2 H:=λb hb h0 c=>by
  have e1:dW H .tZ (.int M) []=.ok (.int b) H:=by show au R.bad (0<=M) _=_;unfold au;rw[CG h0,hb]
  refine gv rfl rfl ?_;show CE (af n) qg [.int M,.undef] H=_;refine Sc (aD (cS rfl (Xv rfl rfl) rfl aj e1)) (Se (d8 (bW ?_) (Se (fO rfl))));rcases c with c |c
  ·by_cases c2:2<=b
   ·exact dk (iB (jP Xi (Xv rfl rfl) (eY (C5 (KB.mp c2))) Xi (eY (Dx (alP c c2))) rfl))
   ·exact dk (iB (jP Xi (Xv rfl rfl) (eY (Dx (alQ c2))) Xi (eY rfl) rfl))
  ·have e2:dc .pow (.int 2) (.int b) H=.ok (.int (2^b)) H:=by
    show au R.bad (0<=(b:Int)/\(b:Int)<=1000/\(2:Int).natAbs<cI) _=_;unfold au;rw[CG ⟨by omega,by omega,by decide⟩,DQ]
   exact bx (iB (jP Xi (Xv rfl rfl) (eY (C5 (by omega))) Xi (eY (C5 (by omega))) rfl))
    (dk (aw (Xv rfl rfl) (am (am Xi (Xv rfl rfl) e2) Xi rfl) (jl c.2)))
 have d:([0,1,131071,2,6,254,65534].all λM:Int=>decide (fk M=((fk M).toNat:Int)/\0<=M/\((¬(2<=(fk M).toNat/\(fk M).toNat<=16))\/((2<=(fk M).toNat/\(fk M).toNat<=16)/\(M==2^(fk M).toNat-1)=false))))=true:=by decide
 have d:=Do (CV.mp d M h);exact g _ d.1 d.2.1 d.2.2
theorem abd(h:ρ[j]?=some (.int x)):ev (af n) (.not (.uE (.s7 1) .le (.var j) .le (.s7 65535))) 4 ρ H=.ok (.bool (!(decide (1<=x)&&decide (x<=65535)))) H:=iB (jP Xi (Xv h rfl) (eY rfl) Xi (eY rfl) rfl)
theorem ad7:run (n+1) 15 [.int x,.int y] H=if(decide (1<=x)&&decide (x<=65535))&&(decide (1<=y)&&decide (y<=65535)) then .ok .none H else .exc 2 H:=by
 have e1:=abd (n:=n) (H:=H) (j:=0) (ρ:= [.int x,.int y]) rfl;have e2:=abd (n:=n) (H:=H) (x:=y) (j:=1) (ρ:= [.int x,.int y]) rfl
 cases h1:decide (1<=x)&&decide (x<=65535) with
 |false=>rw[h1] at e1;exact gv (np:=2) (nv:=2) (bd:=mR) rfl rfl (Se (d8 (bW (dk e1)) (Se (fO rfl))))
 |true=>
  rw[h1] at e1
  cases h2:decide (1<=y)&&decide (y<=65535) with
  |false=>rw[h2] at e2;exact gv (np:=2) (nv:=2) (bd:=mR) rfl rfl (Se (d8 (bW (bx e1 (dk e2))) (Se (fO rfl))))
  |true=>rw[h2] at e2;exact aoI (np:=2) (nv:=2) (bd:=mR) rfl rfl (Sc (fN (bW (bx e1 (bx e2 fS))) Sn) Sn)
end
noncomputable def fo(size x:Nat):Bs:=if size=1 then [CT x] else [CT (x/256),CT (x%256)]
noncomputable def aE(size:Nat)(fl:List Nat):Bs:=fl.flatMap (fo size)
noncomputable def ah(p:Nat):Nat:=if p<=8 then 1 else 2
noncomputable def aA(fl:List Nat):List AV:=fl.map λx:Nat=>AV.int x
theorem jn{size x:Nat}:aE size (x::fl)=fo size x++aE size fl:=rfl
theorem abJ{size:Nat}{a b:List Nat}:aE size (a++b)=aE size a++aE size b:=KV
theorem j9{x:Nat}:(fo (ah p) x).length=ah p:=by
 unfold ah fo
 split<;>rfl
theorem jp:∀{fl:List Nat},(aE (ah p) fl).length=fl.length*ah p:=by
 intro zi
 induction zi with
 |nil=>
 exact(GI _).symm
 |cons x fl ih=>
 exact by
  rw[jn,List.length_append,j9,ih,Dc,Fa,En]
theorem sS{x:Nat}(h:x<256):(CT x).toNat=x:=by rw[GK];exact Hj h
theorem afZ(h:∀x∈fl,x<256):(aE 1 fl).map (λc=>AV.int c.toNat)=aA fl:=by
 induction fl with
 |nil=>rfl
 |cons x fl ih=>rw[jn,Dr,ih λy hy=>h y (Dm _ hy)];show AV.int ((CT x).toNat)::_=_;rw[sS (h x (Ds ..))];rfl
theorem aeK:∀{fl:List Nat}{r:Bs}{j x:Nat},fl[j]?=some x->(aE 2 fl++r)[j*2]?=some (CT (x/256))/\(aE 2 fl++r)[j*2+1]?=some (CT (x%256))
 |[],_,_,_,h=>by cases h
 |y::fl,r,0,x,h=>by cases h;exact⟨rfl,rfl⟩
 |y::fl,r,j+1,x,h=>by rw[KY] at h;have:=aeK (r:=r) h;rw[Fa];exact this
theorem acf:∀{fl:List Nat},u3 (aA fl)=some (fl.map λx:Nat=>(x:Int)):=by
 intro zi
 induction zi with
 |nil=>
 exact rfl
 |cons x fl ih=>
 exact by
  show(some (x:Int)).bind (λx=>(u3 (aA fl)).map (x::·))=_;rw[ih];rfl
theorem ahL{B:Int}:∀{l:List Int}{a:Int},a<B->(∀x∈l,x<B)->l.foldl max a<B:=by
 intro zi
 induction zi with
 |nil=>
 exact @λZ h Z=>h
 |cons x l ih=>
 exact @λa h q=>ih (a:=max a x) (by have:=q x (Ds ..);exact Int.max_lt.mpr ⟨h,this⟩) λy hy=>q y (Dm _ hy)
theorem ahK{B:Int}:∀{l:List Int}{a:Int},(B<=a\/∃x∈l,B<=x)->B<=l.foldl max a:=by
 intro zi
 induction zi with
 |nil=>
 exact @λZ h=>by
  rcases h with h |⟨x,hx,_⟩
  ·exact h
  ·cases hx
 |cons x l ih=>
 exact @λa h=>ih (a:=max a x) (by
  rcases h with h |⟨y,hy,h⟩
  ·exact .inl (DZ h (Kq ..))
  ·cases hy with
   |head=>exact .inl (DZ h (Kr ..))
   |tail _ hy=>exact .inr (ae y hy h))
section
theorem jG(h:p<=1000):dc .pow (.int 2) (.int p) H=.ok (.int (2^p)) H:=by show au R.bad (0<=(p:Int)/\(p:Int)<=1000/\(2:Int).natAbs<cI) _=_;unfold au;rw[CG ⟨by exact rN h,by exact(FA rfl rfl h),by decide⟩,DQ]
theorem iK(h:k<1000000000):cg (k:Int):=⟨DO k,by unfold ji;exact alR h⟩
theorem qP(h:k<1000000000):dq (k:Int)=true:=by unfold dq;rw(occs:=.all) [C5 (alS h),C5 (alT h)];rfl
theorem aop{a b c:Int}(h:(dq a&&dq b&&decide (0<c)&&decide (c<1000))=true):cT H .range [.int a,.int b,.int c]=.ok (.uP a b c) H:=by show au R.bad ((dq a&&dq b&&decide (0<c)&&decide (c<1000))=true) (R.ok (AV.uP a b c) H)=_;unfold au;exact CG h
theorem aoo{a:Int}(h:dq a=true):cT H .range [.int a]=.ok (.uP 0 a 1) H:=by show au R.bad (dq a=true) (R.ok (AV.uP 0 a 1) H)=_;unfold au;exact CG h
theorem eO(h:k<1000000000):cT H .range [.int k]=.ok (.uP 0 k 1) H:=aoo (qP h)
theorem cr:aS H (.uP 0 k 1) j=some (if j<k then some (.int j) else none):=by
 show some (if(0:Int)+j*1<k then some (AV.int ((0:Int)+j*1)) else none)=_
 rw[Int.zero_add,Int.mul_one]
 by_cases h:j<k
 ·rw[CG h,CG (C2.mpr h)]
 ·rw[CJ h,CJ (λe=>h (C2.mp e))]
theorem ad9{p a b c:AV}(hp:p=.int q):exec (af n) (.assign (.var 4) (.bin .add (.s7 1) (.bi .int (.cons (.cmp (.var 3) .gt (.s7 8)) .nil)))) [a,b,c,p,.undef,.undef,.undef] H=.ok (.next [a,b,c,p,.int (ah q),.undef,.undef]) H:=by
 subst hp;have:(1:Int)+(if decide (8<(q:Int))=true then 1 else 0)=(ah q:Nat):=by
  unfold ah
  by_cases h:q<=8
  ·rw[CG h,CJ (by simp;exact FA rfl rfl h)];rfl
  ·rw[CJ h,CG (by simp;exact adb h)];rfl
 rw[<-this];exact aD (am Xi (aM rfl (ad (aw (Xv rfl rfl) Xi (eW rfl)) aj) rfl) rfl)
theorem acy{at' many:Nat}(h:many<1000000000):ev (af n) (.cmp (.bin .add (.var 1) (.bin .mul (.var 2) (.var 4))) .gt (.bi .len (.cons (.var 0) .nil))) 4 [.bytes o,.int at',.int many,.int p,.int (ah p),.undef,.undef] H=.ok (.bool (decide (o.length<at'+many*ah p))) H:=by
 have hm:(many:Int).natAbs<cI:=by rw[FR];unfold cI;exact CM h (by decide)
 exact aw (am (Xv rfl rfl) (am (Xv rfl rfl) (Xv rfl rfl) (fG (.inl hm))) rfl) (aM rfl (ad (Xv rfl rfl) aj) EH) (eW (HA.mpr (by rw[<-Gs];exact alU)))
theorem akh{at' many:Nat}(h:many<1000000000)(hc:o.length<at'+many*ah p):run (n+1) 9 [.bytes o,.int at',.int many,.int p] H=.exc 1 H:=by refine gv (np:=4) (nv:=7) (bd:=jW) rfl rfl ?_;show CE (af n) jW [.bytes o,.int at',.int many,.int p,.undef,.undef,.undef] H=_;exact Sc (ad9 rfl) (Se (d8 ((acy h).trans (by rw[C5 hc])) (Se (fO rfl))))
noncomputable def ahY:tQ:=.cons (.assign (.var 5) (.bi .list (.cons (.slice (.var 0) (.cons (.var 1) .nil) (.cons (.bin .add (.var 1) (.var 2)) .nil) .nil) .nil))) .nil
noncomputable def ahZ:tQ:=.cons (.assign (.var 5) (.comp (.bin .add (.bin .mul (.idx (.var 0) (.var 6)) (.s7 256)) (.idx (.var 0) (.bin .add (.var 6) (.s7 1)))) [6] true (.bi .range (.cons (.var 1) (.cons (.bin .add (.var 1) (.bin .mul (.s7 2) (.var 2))) (.cons (.s7 2) .nil)))) .nil .nil)) .nil
theorem ah0{at':Nat}{r:Bs}(ho:o.length<100000)(hd:o.drop at'=aE (ah p) fl++r)(ha:at'<=o.length)(hx:∀x∈fl,x<256^ah p):
  exec (af n) (.ifs (.cmp (.var 4) .eq (.s7 1)) ahY ahZ) [.bytes o,.int at',.int fl.length,.int p,.int (ah p),.undef,.undef] H=.ok (.next [.bytes o,.int at',.int fl.length,.int p,.int (ah p),.ref H.length,.undef]) (H++[.list (aA fl)]):=by
 have hl:=CH DI hd;rw[Dd,List.length_append,jp] at hl;have hs:1<=ah p:=by unfold ah;split<;>decide
 have hm:fl.length<=fl.length*ah p:=Jp _ hs
 by_cases hp:p<=8
 ·have e:ah p=1:=CG hp;rw[e] at hd hl hx⊢;have e1:=kO (H:=H) (b:=o) (i:=at') (j:=at'+fl.length) (iK (CM (Nat.lt_of_le_of_lt ha ho) (by decide))) (iK (alV ho ha hl));have e2:cut o at' (at'+fl.length)=aE 1 fl:=by
   unfold cut;have l1:(aE 1 fl).length=fl.length:=by have:=jp (p:=0) (fl:=fl);rw[show ah 0=1 from rfl,Js] at this;exact this
   rw[KP,hd,Lu,<-l1,List.take_left]
  rw[e2] at e1;have e3:cT H .list [.bytes (aE 1 fl)]=.ok (.ref H.length) (H++[.list (aA fl)]):=by show R.ok (AV.ref H.length) (H++[.list ((aE 1 fl).map λc=>.int c.toNat)])=_;rw[afZ λx zU=>hx x zU]
  exact d8 (aw (Xv rfl rfl) Xi (iG (Du _))) (Sc (aD (aM rfl (Xo (fT (Xv rfl rfl) (Xo (Xv rfl rfl)) (Xo (am (Xv rfl rfl) (Xv rfl rfl) rfl)) aj e1)) e3)) Sn)
 ·have e:ah p=2:=CJ hp;rw[e] at hd hl hx⊢;have fr:cT H .range [.int at',.int ((at':Int)+2*fl.length),.int 2]=.ok (.uP at' ((at':Int)+2*fl.length) 2) H:=by
   have f1:dq (at':Int)=true:=qP (CM (Nat.lt_of_le_of_lt ha ho) (by decide));have f2:dq ((at':Int)+2*fl.length)=true:=by have:=qP (k:=at'+2*fl.length) (alW ho ha hl);rw[FT,Gs] at this;exact this
   exact aop (by rw(occs:=.all) [f1,f2];decide)
  have w:W (ev (af n) (.comp (.bin .add (.bin .mul (.idx (.var 0) (.var 6)) (.s7 256)) (.idx (.var 0) (.bin .add (.var 6) (.s7 1)))) [6] true (.bi .range (.cons (.var 1) (.cons (.bin .add (.var 1) (.bin .mul (.s7 2) (.var 2))) (.cons (.s7 2) .nil)))) .nil .nil) 4 [.bytes o,.int at',.int fl.length,.int p,.int (2:Nat),.undef,.undef] H) (λv H'=>v=.ref H.length/\H'=H++[.list (aA fl)]) bC:=by
   have hi:ev (af n) (.bi .range (.cons (.var 1) (.cons (.bin .add (.var 1) (.bin .mul (.s7 2) (.var 2))) (.cons (.s7 2) .nil)))) 4 [.bytes o,.int at',.int fl.length,.int p,.int (2:Nat),.undef,.undef] H=.ok (.uP at' ((at':Int)+2*fl.length) 2) H:=aM rfl (ad (Xv rfl rfl) (ad (am (Xv rfl rfl) (am Xi (Xv rfl rfl) (fG (.inl (by decide)))) rfl) (ad Xi aj))) fr
   refine iA (Γ:=af n) (m:=3) (src:=.uP at' ((at':Int)+2*fl.length) 2) (H1:=H) (E:=bC) rfl hi (λj acc H'=>H'=H/\acc=aA (fl.take j)) fl.length ?_ ?_ (λj acc H' hj i=>?_) (λacc H' i=>?_) λacc H' i=>?_
   case refine_2=>exact⟨rfl,by rw[Ef];rfl⟩
   ·show fl.length<=((at':Int)+2*fl.length-at').toNat;exact alX
   ·clear fr hi;obtain⟨rfl,rfl⟩:=i;have zV:=List.getElem?_eq_getElem hj;have hxj:=hx _ (FX hj);(revert zV hxj;refine gn (fl[j]) λx zV hxj=>?_);obtain⟨t1,t2⟩:=aeK (r:=r) zV;rw[<-hd,G9] at t1 t2;refine(ax (.int ((at'+j*2:Nat))) _ ?_ rfl (W.of (am (am (aR (Xv rfl rfl) (Xv rfl rfl) (rc t1)) Xi (fG (.inr (by decide)))) (aR (Xv rfl rfl) (am (Xv rfl rfl) Xi rfl) (rc (i:=at'+j*2+1) t2)) rfl) ⟨rfl,?_⟩))
    ·show some (if(at':Int)+j*2<(at':Int)+2*fl.length then some (AV.int ((at':Int)+j*2)) else none)=_
     rw[CG (alY hj)];rfl
    ·have e4:((CT (x/256)).toNat:Int)*256+(CT (x%256)).toNat=x:=by
      rw[sS (by omega),sS (Nat.mod_lt _ (by decide))];exact al0
     rw[e4,EW,zV];unfold aA;rw[Dr];rfl
   ·show some (if(at':Int)+fl.length*2<(at':Int)+2*fl.length then _ else none)=_
    rw[CJ al1]
   ·clear fr hi;obtain⟨rfl,rfl⟩:=i;rw[Fz];exact⟨by unfold aA al;rw[List.length_map];exact al2 ho ha hl,rfl,rfl⟩
  (obtain⟨v,H',e5,zq3,zq4⟩:=w.ok;subst zq3;subst zq4);exact fN (aw (Xv rfl rfl) Xi (iG (by decide))) (Sc (aD e5) Sn)
theorem ajy{x:Nat}(h:∃a:AO,True):cT (H++[.list (aA (x::fl))]) .max [.ref H.length]=.ok (.int ((fl.map λx:Nat=>(x:Int)).foldl max (x:Int))) (H++[.list (aA (x::fl))]):=by show aJ R.bad (az _ H.length) _=_;rw[bq aC];show aJ R.bad (u3 _) _=_;rw[acf];rfl
theorem ac2{at':Nat}{x:Nat}{r:Bs}(ho:o.length<100000)(hd:o.drop at'=aE (ah p) (x::fl)++r)(ha:at'<=o.length)(hx:∀y∈x::fl,y<256^ah p)(hp:p<=16){k:Bool}(hk:decide ((2:Int)^p<=(fl.map λx:Nat=>(x:Int)).foldl max (x:Int))=k){t:R Fl}
  (c:(if k=true then R.exc 2 (H++[.list (aA (x::fl))]) else .ok (.ret (.ref H.length)) (H++[.list (aA (x::fl))]))=t):CE (af n) jW [.bytes o,.int at',.int (x::fl).length,.int p,.undef,.undef,.undef] H=t:=by
 have hl:=CH DI hd;rw[Dd,List.length_append,jp] at hl;have hs:1<=ah p:=by unfold ah;split<;>decide
 have hm:(x::fl).length<=(x::fl).length*ah p:=Jp _ hs;have e1:ev (af n) (.cmp (.bi .max (.cons (.var 5) .nil)) .ge (.bin .pow (.s7 2) (.var 3))) 4 [.bytes o,.int at',.int (x::fl).length,.int p,.int (ah p),.ref H.length,.undef] (H++[.list (aA (x::fl))])=.ok (.bool k) (H++[.list (aA (x::fl))]):=aw (aM rfl (ad (Xv rfl rfl) aj) (ajy ⟨.list [],trivial⟩)) (am Xi (Xv rfl rfl) (jG (ac9 hp))) (lG hk)
 refine Sc (ad9 rfl) (Sc (fN ((acy (al3 ho ha hl hm)).trans (by rw[Dx (al4 ha hl)])) Sn) (Sc (ah0 ho hd ha hx) ?_))
 cases k with
 |true=>exact(Se (d8 e1 (Se (fO rfl)))).trans c
 |false=>exact(Sc (fN e1 Sn) (Sr (cR (Xv rfl rfl)))).trans c
theorem aki{at':Nat}{r:Bs}(ho:o.length<100000)(hd:o.drop at'=aE (ah p) fl++r)(ha:at'<=o.length)(h0:fl≠[])(hp:p<=16)(hx:∀y∈fl,y<2^p):
  run (n+1) 9 [.bytes o,.int at',.int fl.length,.int p] H=.ok (.ref H.length) (H++[.list (aA fl)]):=by
 cases fl with
 |nil=>exact CI rfl h0
 |cons x fl=>
  have hb:2^p<=256^ah p:=by
   unfold ah
   split
   ·exact Ga (n:=2) (by decide) ‹p<=8›
   ·exact Ga (n:=2) (by decide) hp
  have cst:((2^p:Nat):Int)=(2:Int)^p:=Fw 2 p;refine dQ (np:=4) (nv:=7) (bd:=jW) rfl rfl (ac2 ho hd ha (λy hy=>Nat.lt_of_lt_of_le (hx y hy) hb) hp (k:=false) (Dx (IS.mpr (ahL ?_ λy hy=>?_))) rfl)
  ·have:=hx x (Ds ..);exact cst▸C2.mpr this
  ·(obtain⟨z,hz,zq2⟩:=Dt.mp hy;clear hy;subst zq2);have:=hx z (Dm _ hz);exact cst▸C2.mpr this
theorem akg{at':Nat}{r:Bs}(ho:o.length<100000)(hd:o.drop at'=aE (ah p) fl++r)(ha:at'<=o.length)(hp:p<=16)(hx:∀y∈fl,y<256^ah p){y:Nat}(hy:y∈fl)(hb:2^p<=y):
  run (n+1) 9 [.bytes o,.int at',.int fl.length,.int p] H=.exc 2 (H++[.list (aA fl)]):=by
 cases fl with
 |nil=>cases hy
 |cons x fl=>
  have cst:((2^p:Nat):Int)=(2:Int)^p:=Fw 2 p;refine gv (np:=4) (nv:=7) (bd:=jW) rfl rfl (ac2 ho hd ha hx hp (k:=true) (C5 (ahK ?_)) rfl)
  cases hy with
  |head=>exact .inl (FA cst rfl hb)
  |tail _ hy=>exact .inr (ae y (Dt.mpr (ae y hy rfl)) (FA cst rfl hb))
end
noncomputable def row(xs:List Int):AO:=.list (xs.map .int)
structure tC(lo:Nat)(H:AH)(r:Nat)(R:List (List Int)):Prop where
 lo_le:lo<=r
 ex:∃ps,H[r]?=some (.list ps)/\ps.length=R.length/\∀(y:Nat)(xs:List Int),R[y]?=some xs->∃p,ps[y]?=some (.ref p)/\lo<=p/\H[p]?=some (row xs)
structure PD where
 w:Int
 h:Int
 rows:List (List Int)
def tA(lo:Nat)(H:AH)(v:AV)(D:PD):Prop:=∃r,v=.inst 0 [.int D.w,.int D.h,.ref r]/\tC lo H r D.rows
structure tE(lo:Nat)(H:AH)(q:Nat)(P:List PD):Prop where
 lo_le:lo<=q
 ex:∃pl,H[q]?=some (.list pl)/\pl.length=P.length/\∀(k:Nat)(D:PD),P[k]?=some D->∃v,pl[k]?=some v/\tA lo H v D
def tL(lo:Nat)(H:AH)(v:AV)(m:Str)(p:Int)(P:List PD):Prop:=∃q,v=.inst 1 [.str m,.int p,.ref q]/\tE lo H q P
section
variable {r:Nat}{R:List (List Int)}{P:List PD}{D:PD}{p:Int}
theorem tC.fr(h:tC lo H r R)(f:Fr b H.length H H1)(hb:b<lo):tC lo H1 r R:=by obtain⟨h0,ps,h1,h2,h3⟩:=h;refine⟨h0,ps,f.get (CW (Nat.lt_of_lt_of_le hb h0)) h1,h2,λy xs e=>?_⟩;obtain⟨p,e1,e2,e3⟩:=h3 y xs e;exact(aI p e1 e2 (f.get (CW (Nat.lt_of_lt_of_le hb e2)) e3))
theorem tA.fr(h:tA lo H v D)(f:Fr b H.length H H1)(hb:b<lo):tA lo H1 v D:=by obtain⟨r,h1,h2⟩:=h;exact(ae r h1 (h2.fr f hb))
theorem tE.fr(h:tE lo H q P)(f:Fr b H.length H H1)(hb:b<lo):tE lo H1 q P:=by obtain⟨h0,pl,h1,h2,h3⟩:=h;refine⟨h0,pl,f.get (CW (Nat.lt_of_lt_of_le hb h0)) h1,h2,λk D e=>?_⟩;obtain⟨v,e1,e2⟩:=h3 k D e;exact(ae v e1 (e2.fr f hb))
theorem tL.fr(h:tL lo H v m p P)(f:Fr b H.length H H1)(hb:b<lo):tL lo H1 v m p P:=by obtain⟨q,h1,h2⟩:=h;exact(ae q h1 (h2.fr f hb))
theorem tC.u9{u9:Nat}(h:tC lo H r R)(l:u9<=lo):tC u9 H r R:=by obtain⟨h0,ps,h1,h2,h3⟩:=h;refine⟨Nat.le_trans l h0,ps,h1,h2,λy xs e=>?_⟩;obtain⟨p,e1,e2,e3⟩:=h3 y xs e;exact(aI p e1 (Nat.le_trans l e2) e3)
theorem tA.u9{u9:Nat}(h:tA lo H v D)(l:u9<=lo):tA u9 H v D:=by obtain⟨r,h1,h2⟩:=h;exact(ae r h1 (h2.u9 l))
theorem tE.u9{u9:Nat}(h:tE lo H q P)(l:u9<=lo):tE u9 H q P:=by obtain⟨h0,pl,h1,h2,h3⟩:=h;refine⟨Nat.le_trans l h0,pl,h1,h2,λk D e=>?_⟩;obtain⟨v,e1,e2⟩:=h3 k D e;exact(ae v e1 (e2.u9 l))
theorem tL.u9{u9:Nat}(h:tL lo H v m p P)(l:u9<=lo):tL u9 H v m p P:=by obtain⟨q,h1,h2⟩:=h;exact(ae q h1 (h2.u9 l))
theorem qX{l:List α}{x y:α}(h:(l++[x])[k]?=some y):(k<l.length/\l[k]?=some y)\/(k=l.length/\x=y):=by
 by_cases c:k<l.length
 ·rw[D6 c] at h;exact .inl ⟨c,h⟩
 ·rw[FU (Dj c)] at h
  cases e:k-l.length with
  |zero=>rw[e] at h;cases h;exact .inr ⟨by exact(Hg (Lx e) (Dj c)),rfl⟩
  |succ j=>rw[e] at h;cases h
theorem iY{o:AO}(h:q<H.length):(H.set q o)[q]?=some o:=EV h
theorem ac0{p y:Nat}{xs:List Int}(h:H[r]?=some (.list ps))(hr:ps[y]?=some (AV.ref p))(hp:H[p]?=some (row xs)):r≠p:=by rintro rfl;rw[h] at hp;unfold row at hp;cases hp;rw[C8] at hr;cases e:xs[y]? <;>rw[e] at hr<;>cases hr
theorem tC.push{xs:List Int}(h:tC lo H r R)(hr:r≠rp)(hl:lo<=rp)(hp:H[rp]?=some (row xs)):∃ps,H[r]?=some (.list ps)/\ps.length=R.length/\tC lo (H.set r (.list (ps++[AV.ref rp]))) r (R++[xs]):=by
 obtain⟨h0,ps,h1,h2,h3⟩:=h;refine(aI ps h1 h2 ⟨h0,_,iY (cD h1),by rw[List.length_append,List.length_append,h2];rfl,λy ys e=>?_⟩);rcases qX e with⟨c,e⟩ |⟨rfl,rfl⟩
 ·obtain⟨p,e1,e2,e3⟩:=h3 y ys e;exact(aI p ((D6 (by rw[h2];exact c)).trans e1) e2 ((DH (ac0 h1 e1 e3)).trans e3))
 ·exact(aI rp (by rw[<-h2];exact FV) hl ((DH hr).trans hp))
theorem tC.set(h:tC lo H r R){o:AO}(hq:q<lo):tC lo (H.set q o) r R:=by obtain⟨h0,ps,h1,h2,h3⟩:=h;refine⟨h0,ps,(DH (CP (Nat.lt_of_lt_of_le hq h0))).trans h1,h2,λy xs e=>?_⟩;obtain⟨p,e1,e2,e3⟩:=h3 y xs e;exact(aI p e1 e2 ((DH (CP (Nat.lt_of_lt_of_le hq e2))).trans e3))
theorem tA.set(h:tA lo H v D){o:AO}(hq:q<lo):tA lo (H.set q o) v D:=by obtain⟨r,h1,h2⟩:=h;exact(ae r h1 (h2.set hq))
structure vh(q:Nat)(H:AH)(P:List PD):Prop where
 ex:∃pl,H[q]?=some (.list pl)/\pl.length=P.length/\∀(k:Nat)(D:PD),P[k]?=some D->∃v,pl[k]?=some v/\tA (q+1) H v D
theorem vh.fr(h:vh q H P)(f:Fr q H.length H H1)(hq:H1[q]?=H[q]?):vh q H1 P:=by obtain⟨pl,h1,h2,h3⟩:=h;refine⟨pl,hq.trans h1,h2,λk D e=>?_⟩;obtain⟨v,e1,e2⟩:=h3 k D e;exact(ae v e1 (e2.fr f (DU _)))
theorem vh.push(h:vh q H P)(hv:tA (q+1) H v D):∃pl,H[q]?=some (.list pl)/\pl.length=P.length/\vh q (H.set q (.list (pl++[v]))) (P++[D]):=by
 obtain⟨pl,h1,h2,h3⟩:=h;refine(aI pl h1 h2 ⟨_,iY (cD h1),by rw[List.length_append,List.length_append,h2];rfl,λk E e=>?_⟩);rcases qX e with⟨c,e⟩ |⟨rfl,rfl⟩
 ·obtain⟨u,e1,e2⟩:=h3 k E e;exact(ae u ((D6 (by rw[h2];exact c)).trans e1) (e2.set (DU _)))
 ·exact(ae v (by rw[<-h2];exact FV) (hv.set (DU _)))
theorem vh.at'(h:vh q H P)(hl:lo<=q):tE lo H q P:=by obtain⟨pl,h1,h2,h3⟩:=h;refine⟨hl,pl,h1,h2,λk D e=>?_⟩;obtain⟨v,e1,e2⟩:=h3 k D e;exact(ae v e1 (e2.u9 (LC hl)))
end
section
theorem iE(h:H[q]?=some (.list xs))(hl:xs.length<al):dW H .append (.ref q) [v]=.ok .none (H.set q (.list (xs++[v]))):=by show aJ R.bad (az H q) _=_;rw[bq h];exact CG hl
theorem iD(h:H[q]?=some (.list xs)):lX H .append (.ref q)=true:=by show aJ false (az H q) _=_;rw[bq h];rfl
end
theorem abS{α:Type}{st:Nat}(hs:0<st):∀{n:Nat}{xs:List α}{i:Nat},xs.length<=n->(every st n xs)[i]?=xs[i*st]?
 |0,xs,i,h=>by obtain rfl:=KR (LD.mp h);rfl
 |n+1,[],i,h=>rfl
 |n+1,x::r,0,h=>by rw[GI];rfl
 |n+1,x::r,i+1,h=>by show(every st n (r.drop (st-1)))[i]?=_;rw[abS hs (by rw[Dd];rw[Dc] at h;exact Nat.le_trans (DK ..) (Hh h)),G9,Fa];obtain⟨t,rfl⟩:=Jo (CW hs);rw[show i*(t+1)+(t+1)=(t+1-1+i*(t+1))+1 by exact om6 hs,KY]
noncomputable def av(f:Nat->Nat->Nat->Nat)(w h d:Nat):List Nat:=(CL (h*w*d)).map λi=>f (i%d) (i/d/w) (i/d%w)
noncomputable def fE(f:Nat->Nat->Nat->Nat)(w k y:Nat):List Nat:=(CL w).map λx=>f k y x
theorem fZ:(av f w h d).length=h*w*d:=by unfold av;rw[List.length_map,DC]
theorem ab2{y x:Nat}(hk:k<d)(hx:x<w)(hy:y<h):(av f w h d)[(y*w+x)*d+k]?=some (f k y x):=by
 have h1:(y*w+x)*d+k<h*w*d:=by
  have a:y*w+x+1<=h*w:=by have:(y+1)*w<=h*w:=Eb w hy;rw[Fa] at this;exact Nat.lt_of_lt_of_le (Fk hx _) this
  have b:=Eb d a;rw[Fa] at b;exact Nat.lt_of_lt_of_le (Fk hk _) b
 unfold av;rw[C8,EL h1];have e1:((y*w+x)*d+k)%d=k:=by rw[En,Ls,Hj hk]
 have e2:((y*w+x)*d+k)/d=y*w+x:=by rw[En,Lr _ _ (Nat.lt_of_le_of_lt (DY _) hk),GD hk,EO]
 have e3:(y*w+x)/w=y:=by rw[En,Lr _ _ (Nat.lt_of_le_of_lt (DY _) hx),GD hx,EO]
 have e4:(y*w+x)%w=x:=by rw[En,Ls,Hj hx]
 show some (f _ _ _)=_;rw[e1,e2,e3,e4]
theorem getElem?_ints {l:List Nat}:(aA l)[i]?=(l[i]?).map λx:Nat=>AV.int x:=C8
theorem ahq{y:Nat}(hk:k<d)(hy:y<h):
  every d (aA (av f w h d)).length (cut (aA (av f w h d)) (y*w*d+k) (y*w*d+k+w*d))=aA (fE f w k y):=by
 have hd:0<d:=Nat.lt_of_le_of_lt (DY _) hk;apply HX;intro i;rw[abS hd (by unfold cut;rw[Dd,Dg];exact Nat.le_trans (DK ..) (DV ..)),getElem?_ints];unfold cut fE;rw(occs:=.all) [G9,Jf,C8]
 by_cases c:i<w
 ·have:i*d+d<=w*d:=by rw[<-Fa];exact Eb d c
  rw[CG (akk hk this),EL c,getElem?_ints,show y*w*d+k+i*d=(y*w+i)*d+k by rw[Lq];exact akp,ab2 hk c hy];rfl
 ·have:w*d<=i*d:=Eb d (Dj c);rw[CJ (Ep.mpr (CY this _)),Dq (by rw[DC];exact Dj c)];rfl
variable {P:List PD}{at' u9:Nat}{D:PD}
def gk(f:Nat->Nat->Nat->Nat)(w k y:Nat):List Int:=(fE f w k y).map λx:Nat=>(x:Int)
def iW(f:Nat->Nat->Nat->Nat)(w h k:Nat):PD:=⟨w,h,(CL h).map (gk f w k)⟩
def bJ(f:Nat->Nat->Nat->Nat)(w h d:Nat):List PD:=(CL d).map (iW f w h)
theorem adT{l:List Nat}:AO.list (aA l)=row (l.map λx:Nat=>(x:Int)):=by unfold row aA;rw[FZ];rfl
theorem aez{g:Nat->α}(h:k<d):((CL d).map g).take (k+1)=((CL d).map g).take k++[g k]:=by rw[EW,C8,EL h];rfl
theorem Fr.any{b' m:Nat}(f:Fr b' m H H1)(h:m<=b'):Fr b m H H1:=⟨f.le,λp h1 Z=>f.at' p h1 (CP (Nat.lt_of_lt_of_le h1 h))⟩
section
theorem apE{l t:Nat}(h:H[s]?=some (.list xs))(hl:l<1000000000)(hu:u<1000000000)(ht:0<t)(ht':t<1000000000):dA H (.ref s) [.int l] [.int u] [.int t]=.ok (.ref H.length) (H++[.list (every t xs.length (cut xs l u))]):=by
 have g:∀l u t:Int,(cg l/\cg u/\0<t/\t<ji)->dA H (.ref s) [.int l] [.int u] [.int t]=.ok (.ref H.length) (H++[.list (every t.toNat xs.length (cut xs l.toNat u.toNat))]):=λl u t q=>by show aJ R.bad (az H s) _=_;rw[bq h];exact CG q
 exact g l u t (bY (iK hl) (iK hu) (GS.mpr ht) (by unfold ji;exact akG ht ht'))
theorem acv(h:H[s]?=some (.list xs)):cT H .list [.ref s]=.ok (.ref H.length) (H++[.list xs]):=by show aJ R.bad (az H s) _=_;rw[bq h];rfl
theorem aoh(hs:H[s]?=some (.list (aA (av f w h d))))(hw:w<=100)(hh:h<=100)(hd:d<=100)(AP:0<d):
  ∃H',run (n+1) 7 [.ref s,.int w,.int h,.int d] H=.ok (.ref H.length) H'/\Fr H.length H.length H H'/\vh H.length H' (bJ f w h d):=by
 have yU:=cD hs;have bnd:∀y,y<h->y*w*d<=1000000:=λy hy=>Nat.le_trans (Er (Er (show y<=100 by exact Nat.le_trans (CN hy) hh) hw) hd) (by decide);have atb:w*d<=10000:=Er hw hd;have w0:=dG (k:=7) (bd:=qf) (vs:= [.ref s,.int w,.int h,.int d]) (Q:=λv H'=>v=.ref H.length/\Fr H.length H.length H H'/\vh H.length H' (bJ f w h d)) (E:=bC) rfl rfl (by
  show W (CE (af n) qf [.ref s,.int w,.int h,.int d,.undef,.undef,.undef,.undef,.undef] H) _ _;refine aG (aD (bB aj (by decide))) (dj rfl (aM rfl (ad (Xv rfl rfl) aj) (eO (Nat.lt_of_le_of_lt hd (by decide)))) (λk ρ Hc=>(∃a5 a6 a7 a8,ρ=[.ref s,.int w,.int h,.int d,.ref H.length,a5,a6,a7,a8])/\Fr H.length H.length H Hc/\H.length<Hc.length/\vh H.length Hc ((bJ f w h d).take k)) d ?_ ?_ (λk ρ Hc Gq Nq hk i uF kq=>?_) (λρ Hc i=>?_) λρ Hc i=>?_)
  ·show d<=((d:Int)-0).toNat;exact akN hd AP
  ·exact(bY (iP _ _ _ _ rfl) (.app (Nat.le_refl _)) (by rw[List.length_append];exact DU _) ⟨[],aC,by rw[Ef];rfl,λk D e=>by rw[Ef] at e;cases e⟩)
  ·(revert i;refine r_aaa λzq0 fr lt gr=>?_;obtain⟨a5,a6,a7,a8,rfl⟩:=zq0);refine(kq (.int k) _ (by rw[cr,CG hk]) rfl (aG (aD (bB aj (by decide))) (dj rfl (aM rfl (ad (Xv rfl rfl) aj) (eO (mc hh))) (λy ρ Hd=>(∃a7 a8,ρ=[.ref s,.int w,.int h,.int d,.ref H.length,.int k,.ref Hc.length,a7,a8])/\Fr Hc.length Hc.length Hc Hd/\Hc.length<Hd.length/\tC (H.length+1) Hd Hc.length (((CL h).map (gk f w k)).take y)) h ?_ ?_ (λy ρ Hd Gq Nq hy i uF kq=>?_) (λρ Hd i=>?_) λρ Hd i=>?_)))
   ·show h<=((h:Int)-0).toNat;exact me hh
   ·exact(bY (cK _ _ rfl) (.app (Nat.le_refl _)) (by rw[List.length_append];exact DU _) ⟨lt,[],aC,by rw[Ef];rfl,λk D e=>by rw[Ef] at e;cases e⟩)
   ·(revert i;refine r_aaa λzq0 zO zf ra=>?_;obtain⟨a7,a8,rfl⟩:=zq0);have hsd:Hd[s]?=some (.list (aA (av f w h d))):=zO.gt (CM yU lt) (CP (CM yU lt)) (fr.gt (Nat.lt_of_succ_le yU) (CP yU) hs);have b1:=bnd y hy;have e1:=apE (l:=y*w*d+k) (u:=y*w*d+k+w*d) hsd (Nat.lt_of_le_of_lt (C7 b1 (Nat.le_trans (CN hk) hd)) (by decide)) (Nat.lt_of_le_of_lt (C7 (C7 b1 (Nat.le_trans (CN hk) hd)) atb) (by decide)) AP (Nat.lt_of_le_of_lt hd (by decide));rw[ahq hk hy] at e1;simp only[FT,Gs] at e1;have ra2:=ra.fr (Fr.app (b:=H.length) (Nat.le_refl _) (l:= [.list (aA (fE f w k y))]++[.list (aA (fE f w k y))])) (DU _);rw[<-List.append_assoc] at ra2;have hp:(Hd++[AO.list (aA (fE f w k y))]++[AO.list (aA (fE f w k y))])[(Hd++[AO.list (aA (fE f w k y))]).length]?=some (row (gk f w k y)):=by rw[aC,adT];rfl
    have l3:(Hd++[AO.list (aA (fE f w k y))]).length=Hd.length+1:=by rw[List.length_append];rfl
    obtain⟨ps,g1,g2,g3⟩:=ra2.push (l3▸CP (EC zf)) (l3▸LC (CM lt zf)) hp;rw[<-aez hy] at g3;have hl:ps.length<al:=by rw[g2,Dg,List.length_map,DC];unfold al;exact Nat.lt_of_le_of_lt (Nat.le_trans (DV ..) hh) (by decide)
    refine(kq (.int y) _ (by rw[cr,CG hy]) rfl (aG (aD (am (am (am (Xv rfl rfl) (Xv rfl rfl) (fG (.inr (by rw[FR];unfold cI;exact alv hw)))) (Xv rfl rfl) (fG (.inr (by rw[FR];unfold cI;exact adn hd AP)))) (Xv rfl rfl) rfl)) (aG (eU (cS rfl (Xv rfl rfl) (iD (ra.ex.choose_spec.1)) (Xo (aM rfl (Xo (fT (Xv rfl rfl) (Xo (Xv rfl rfl)) (Xo (am (Xv rfl rfl) (am (Xv rfl rfl) (Xv rfl rfl) (fG (.inr (by rw[FR];unfold cI;exact adn hd AP)))) rfl)) (Xo (Xv rfl rfl)) e1)) (acv aC))) (iE g1 hl)) rfl) (bA (uF _ _ (bY (cK _ _ rfl) ?_ ?_ g3))))))
    ·exact(zO.trans (by rw[List.append_assoc];exact Fr.app (CN zf))).trans (Fr.put (.inl rfl))
    ·rw[acs,List.length_append,l3];exact EC (EC zf)
   ·rw[cr,CJ (CS _)]
   ·(revert i;refine r_aaa λzq0 zO zf ra=>?_;obtain⟨a7,a8,rfl⟩:=zq0);rw[EB (by rw[List.length_map,DC];exact Nat.le_refl _)] at ra;have gr2:=gr.fr (zO.any (Nat.le_refl _)) (zO.at' _ lt (CP lt));have pa:tA (H.length+1) Hd (.inst 0 [.int w,.int h,.ref Hc.length]) (iW f w h k):=(ae _ rfl ra);obtain⟨pl,g1,g2,g3⟩:=gr2.push pa;rw[show(bJ f w h d).take k++[iW f w h k]=(bJ f w h d).take (k+1) from(aez hk).symm] at g3;have hl:pl.length<al:=by
     rw[g2,Dg];unfold al;exact Nat.lt_of_le_of_lt (Nat.le_trans (F9 ..) (Nat.le_trans (CN hk) hd)) (by decide)
    exact aG (eU (cS rfl (Xv rfl rfl) (iD g1) (Xo (je rfl (ad (Xv rfl rfl) (ad (Xv rfl rfl) (ad (Xv rfl rfl) aj))) rfl)) (iE g1 hl)) rfl) (bA (uF _ _ (bY (iP _ _ _ _ rfl) ((fr.trans ((zO.less (CN lt)).any (CN lt))).trans (Fr.put (.inl rfl))) (by rw[acs];exact CM lt zf) g3)))
  ·rw[cr,CJ (CS _)]
  ·(revert i;refine r_aaa λzq0 fr lt gr=>?_;obtain⟨a5,a6,a7,a8,rfl⟩:=zq0);rw[EB (by unfold bJ;rw[List.length_map,DC];exact Nat.le_refl _)] at gr;exact dF (Xv rfl rfl) ⟨rfl,fr,gr⟩)
 obtain⟨v,H',e,rfl,h1,h2⟩:=w0.ok;exact(aI H' e h1 h2)
end
noncomputable def cN(es:List (Bs×Bs))(k:Bs):Option Bs:=(es.find? λe=>e.1==k).map (·.2)
theorem aqw{k v:Bs}(h:cN es k=some v):c7 es k=true:=by
 unfold cN at h;unfold c7
 cases e:es.find? λe=>e.1==k with
 |none=>rw[e] at h;cases h
 |some x=>exact IX.mpr (ae x (La e) (KU (p:=λe:Bs×Bs=>e.1==k) e))
theorem ab0{k:Bs}:((es.map λe=>(e.1,AV.bytes e.2)).find? λe=>e.1==k).map (·.2)=(cN es k).map .bytes:=by unfold cN;rw[KT];show((es.find? _).map _).map _=((es.find? _).map _).map _;rw[Iq,Iq];rfl
section
variable {t:Nat}{k v:Bs}
theorem nh(h:H[t]?=some (tab es)):du H t=some (es.map λe=>(e.1,AV.bytes e.2)):=by unfold du;rw[h];rfl
theorem ajC(h:H[t]?=some (tab es)):kn H (.bytes k) (.ref t)=some (c7 es k):=by show aJ none (du H t) _=_;rw[nh h];exact CH some sU
theorem aj7(h:H[t]?=some (tab es))(hv:cN es k=some v):bj H .ui (.bytes k) (.ref t)=some false:=by show(kn H (.bytes k) (.ref t)).map (!·)=_;rw[ajC h,aqw hv];rfl
theorem aiD(h:H[t]?=some (tab es))(hv:cN es k=some v):eJ H (.ref t) (.bytes k)=some (.bytes v):=by show aJ none (du H t) _=_;rw[nh h];exact ab0.trans (by rw[hv];rfl)
theorem ah3{d:AV}(h:H[t]?=some (tab es)):dW H .get (.ref t) [.bytes k,d]=.ok (((cN es k).map AV.bytes).getD d) H:=by show aJ R.bad (du H t) _=_;rw[nh h];exact CH (λx:Option AV=>R.ok (x.getD d) H) ab0
theorem ah2(h:H[t]?=some (tab es)):lX H .get (.ref t)=true:=by show aJ false (du H t) _=_;rw[nh h];rfl
end
structure Told(es:List (Bs×Bs))(nums:List Int):Prop where
 num:∀j,j<4->∃k v,lZ[j]?=some (.bytes k)/\cN es k=some v/\iS v=true/\v.length<=9/\nums[j]?=some (dec v)
 len:nums.length=4
def mt:tQ:=match fV with
 | .cons _ (.cons _ (.cons _ (.cons _ (.cons _ r))))=>r
 |_=>.nil
theorem aiO:aS H (.tup vs) j=some vs[j]? :=rfl
section
variable {H0:AH}{nums:List Int}
theorem adI(h:o.take 2=aq):ev (af n) (.cmp (.bi .bytes (.cons (.slice (.var 0) .nil (.cons (.s7 2) .nil) .nil) .nil)) .ne (.s9 [80,55])) 4 ([.bytes o]++CK 10 .undef) H=.ok (.bool false) H:=by
 have e:dA H (.bytes o) [] [.int 2] []=.ok (.bytes aq) H:=by show au R.bad (cg 2) (R.ok (AV.bytes (o.take 2)) H)=_;unfold au;rw[CG (by decide),h]
 exact aw (aM rfl (Xo (fT (Xv rfl rfl) aj (Xo Xi) aj e)) qp) Xy (jm rfl)
theorem aju{t:Nat}(h2:o.take 2=aq)(Ak:run n 16 [.bytes o] H0=.ok (.tup [.ref t,.int at']) H)(hn:∃n',n=n'+1)(ht:H[t]?=some (tab es))(T:Told es nums){w h d m:Int}(atv:nums=[w,h,d,m])
  (k:∀H' q a4,Fr H.length H.length H H'->W (CE (af n) mt [.bytes o,.ref t,.int at',.ref q,a4,.int w,.int h,.int d,.int m,.undef,.undef] H') Q E):
  W (CE (af n) fV ([.bytes o]++CK 10 .undef) H0) Q E:=by
 obtain⟨n,rfl⟩:=hn;have tl:=cD ht;refine fQ (adI h2) (aG (dE rfl (aK (ad (Xv rfl rfl) aj) Ak) rfl) (aG (aD (bB aj (by decide))) (dj rfl Xg (λj ρ Hc=>(∃a4,ρ=[.bytes o,.ref t,.int at',.ref H.length,a4,.undef,.undef,.undef,.undef,.undef,.undef])/\Fr H.length H.length H Hc/\Hc[H.length]?=some (.list ((nums.take j).map .int))) 4 (Nat.le_refl 4) ?_ (λj ρ Hc Gq Nq hj i uF kq=>?_) (λρ Hc i=>rfl) λρ Hc i=>?_)))
 ·exact⟨⟨_,rfl⟩,.app (Nat.le_refl _),by rw[Ef];exact aC⟩
 ·(revert i;refine r_aa λzq0 fr hq=>?_;obtain⟨a4,rfl⟩:=zq0);obtain⟨kk,v,n1,n2,n3,n4,n5⟩:=T.num j hj;have htc:=fr.gt tl (CP tl) ht;obtain⟨x,e⟩:=aka (n:=n) (H:=Hc) n3 n4;have hq2:(Hc++[x])[H.length]?=some (.list ((nums.take j).map .int)):=aH hq;refine(kq _ _ (aiO.trans (CH some n1)) rfl (fQ (aw (Xv rfl rfl) (Xv rfl rfl) (aj7 htc n2)) (aG (eU (cS rfl (Xv rfl rfl) (iD hq) (Xo (aK (Xo (aR (Xv rfl rfl) (Xv rfl rfl) (aiD htc n2))) e)) (iE hq2 ?_)) rfl) (bA (uF _ _ (bT ⟨_,rfl⟩ ?_ ?_))))))
  ·rw[List.length_map,Dg];unfold al;exact Nat.lt_of_le_of_lt (Nat.le_trans (F9 ..) (CN hj)) (by decide)
  ·exact(fr.trans (.app fr.le)).trans (.put (.inl rfl))
  ·rw[iY (cD hq2),EW,n5,Dr];rfl
 ·(revert i;refine r_aa λzq0 fr hq=>?_;obtain⟨a4,rfl⟩:=zq0);clear T;subst atv;exact aG (dE rfl (Xv rfl rfl) (by
   show(jA Hc (.ref H.length)).bind _=_;rw[show jA Hc (.ref H.length)=_ from bq hq];rfl)) (k Hc H.length a4 fr)
def dU(d:Nat):Bs:=if d=1 then pR else if d=3 then pT else pP
noncomputable def br(d:Nat):Str:=if d=1 then "grey" else if d=3 then "rgb" else "cmyk"
def xe(d:Nat):Prop:=d=1\/d=3\/d=4
theorem ri(h:xe d):eJ H (.gd 3) (.int d)=some (.bytes (dU d)):=by rcases h with rfl |rfl |rfl<;>rfl
theorem ajG(h:xe d):eJ H (.gd 4) (.int d)=some (.str (br d)):=by rcases h with rfl |rfl |rfl<;>rfl
theorem agV(h:xe d):bj H .ui (.int d) (.gd 3)=some false:=by rcases h with rfl |rfl |rfl<;>rfl
theorem agW{d:Int}(h:d∈[0,2,5]):bj H .ui (.int d) (.gd 3)=some true:=by
 rcases CR.mp h with rfl |h
 ·rfl
 ·rcases CR.mp h with rfl |h
  ·rfl
  ·rcases CR.mp h with rfl |h
   ·rfl
   ·cases h
variable {t:Nat}
theorem aoA{w h d m:Int}(hb:((decide (1<=w)&&decide (w<=65535))&&(decide (1<=h)&&decide (h<=65535)))=false)(e:E 2 H):W (CE (af (n+1)) mt [.bytes o,.ref t,.int at',.ref q,a4,.int w,.int h,.int d,.int m,.undef,.undef] H) Q E:=by have s:=ad7 (n:=n) (H:=H) (x:=w) (y:=h);rw[hb] at s;exact gB (.xA (by rw[E5.expr];exact X2 (aK (ad (Xv rfl rfl) (ad (Xv rfl rfl) aj)) s)) e)
def oH:tQ:=match mt with
 | .cons _ r=>r
 |_=>.nil
theorem r9{w h d m:Int}(hb:((decide (1<=w)&&decide (w<=65535))&&(decide (1<=h)&&decide (h<=65535)))=true)(k:W (CE (af (n+1)) oH [.bytes o,.ref t,.int at',.ref q,a4,.int w,.int h,.int d,.int m,.undef,.undef] H) Q E):W (CE (af (n+1)) mt [.bytes o,.ref t,.int at',.ref q,a4,.int w,.int h,.int d,.int m,.undef,.undef] H) Q E:=by have s:=ad7 (n:=n) (H:=H) (x:=w) (y:=h);rw[hb] at s;exact aG (eU (aK (ad (Xv rfl rfl) (ad (Xv rfl rfl) aj)) s) rfl) k
theorem aow{w h d m:Int}(hd:d∈[0,2,5])(e:E 2 H):W (CE (af (n+1)) oH [.bytes o,.ref t,.int at',.ref q,a4,.int w,.int h,.int d,.int m,.undef,.undef] H) Q E:=gB (.xA (d8 (bW (dk (aw (Xv rfl rfl) Xg (agW hd)))) (Se (fO rfl))) e)
def oJ:tQ:=match oH with
 | .cons _ r=>r
 |_=>.nil
theorem adQ{w h m:Int}(hd:xe d)(ht:H[t]?=some (tab es))(hk:∀v,cN es bX=some v->v=dU d)(k:W (CE (af (n+1)) oJ [.bytes o,.ref t,.int at',.ref q,a4,.int w,.int h,.int d,.int m,.undef,.undef] H) Q E):W (CE (af (n+1)) oH [.bytes o,.ref t,.int at',.ref q,a4,.int w,.int h,.int d,.int m,.undef,.undef] H) Q E:=by
 have g:=ah3 (H:=H) (k:=bX) (d:=.bytes (dU d)) ht;have g2:((cN es bX).map AV.bytes).getD (.bytes (dU d))=.bytes (dU d):=by
  cases e:cN es bX with
  |none=>rfl
  |some v=>rw[hk v e];rfl
 rw[g2] at g;exact fQ (bW (bx (aw (Xv rfl rfl) Xg (agV hd)) (bx (aw (cS rfl (Xv rfl rfl) (ah2 ht) (ad Xy (Xo (aR Xg (Xv rfl rfl) (ri hd)))) g) (aR Xg (Xv rfl rfl) (ri hd)) (jm (r:=false) (Du _))) fS))) k
theorem aoy{w h d m:Int}(hm:m∈[0,1,131071,2,6,254,65534])(e:E 2 H):W (CE (af (n+1)) oJ [.bytes o,.ref t,.int at',.ref q,a4,.int w,.int h,.int d,.int m,.undef,.undef] H) Q E:=gB (.xA (aai (aK (ad (Xv rfl rfl) aj) (aom hm))) e)
def oK:tQ:=match oJ with
 | .cons _ r=>r
 |_=>.nil
theorem aoz{w h d:Int}(hp:2<=p/\p<=16)(k:W (CE (af (n+1)) oK [.bytes o,.ref t,.int at',.ref q,a4,.int w,.int h,.int d,.int (2^p-1),.int p,.undef] H) Q E):W (CE (af (n+1)) oJ [.bytes o,.ref t,.int at',.ref q,a4,.int w,.int h,.int d,.int (2^p-1),.undef,.undef] H) Q E:=aG (aD (aK (ad (Xv rfl rfl) aj) (aon hp))) k
theorem acG(hd:d<100000)(hh:h<100000)(h5:ρ[5]?=some (.int w))(h6:ρ[6]?=some (.int h))(h7:ρ[7]?=some (.int d)):ev (af n) (.bin .mul (.bin .mul (.var 5) (.var 6)) (.var 7)) 4 ρ H=.ok (.int ((h*w*d:Nat))) H:=by have e:=am (Γ:=af n) (m:=4) (H:=H) (o:=.mul) (am (o:=.mul) (Xv h5 rfl) (Xv h6 rfl) (fG (.inr (by rw[FR];unfold cI;exact CM hh (by decide))))) (Xv h7 rfl) (fG (.inr (by rw[FR];unfold cI;exact CM hd (by decide))));rw[Gs,Gs,Kv (h:Int)];exact e
theorem adR{m:Int}(hd:d<100000)(hh:h<100000)(e9:run (n+1) 9 [.bytes o,.int ((at'+1:Nat)),.int ((h*w*d:Nat)),.int p] H=.exc j H0)(e:E j H0):W (CE (af (n+1)) oK [.bytes o,.ref t,.int at',.ref q,a4,.int w,.int h,.int d,.int m,.int p,.undef] H) Q E:=gB (.xA (aai (aK (ad (Xv rfl rfl) (ad (am (Xv rfl rfl) Xi rfl) (ad (acG hd hh rfl rfl rfl) (ad (Xv rfl rfl) aj)))) e9)) e)
theorem aox{m:Int}(hw:w<=100)(hh:h<=100)(hd:xe d)(e9:run (n+1) 9 [.bytes o,.int ((at'+1:Nat)),.int ((h*w*d:Nat)),.int p] H=.ok (.ref H.length) (H++[.list (aA (av f w h d))]))
  (e:∀v H',Fr H.length H.length H H'->tL H.length H' v (br d) p (bJ f w h d)->Q (.ret v) H'):W (CE (af (n+1)) oK [.bytes o,.ref t,.int at',.ref q,a4,.int w,.int h,.int d,.int m,.int p,.undef] H) Q E:=by
 have BK:0<d/\d<=4:=by clear e9 e;rcases hd with rfl |rfl |rfl<;>decide
 obtain⟨H',r7,fr,gr⟩:=aoh (n:=n) (s:=H.length) (H:=H++[.list (aA (av f w h d))]) aC hw hh (alZ BK) BK.1;have l1:H.length<=(H++[AO.list (aA (av f w h d))]).length:=by rw[List.length_append];exact Nat.le_add_right _ _
 refine aG (aD (aK (ad (Xv rfl rfl) (ad (am (Xv rfl rfl) Xi rfl) (ad (acG (Nat.lt_of_le_of_lt BK.2 (by decide)) (al6 hh) rfl rfl rfl) (ad (Xv rfl rfl) aj)))) e9)) ?_;refine dF (je rfl (ad (aR Xg (Xv rfl rfl) (ajG hd)) (ad (Xv rfl rfl) (Xo (aK (ad (Xv rfl rfl) (ad (Xv rfl rfl) (ad (Xv rfl rfl) (ad (Xv rfl rfl) aj)))) r7)))) rfl) ?_;exact e _ H' ((Fr.app (Nat.le_refl _)).trans ((fr.less l1).any l1)) (ae _ rfl (gr.at' l1))
end
noncomputable def ak:List (Bs×Bs)->Bs->Bs
 |[],r=>r
 |(g,w)::T,r=>g++(w++ak T r)
noncomputable def ba:List (Bs×Bs)->Nat
 |[]=>0
 |(g,w)::T=>g.length+w.length+ba T
theorem ahD{w r:Bs}:ak ((g,w)::T) r=g++(w++ak T r):=rfl
theorem aja{w:Bs}:ba ((g,w)::T)=g.length+w.length+ba T:=rfl
noncomputable def jN:List (Bs×Bs)->List Bs
 |[]=>[aQ]
 |(n,v)::ws=>n::v::jN ws
noncomputable def gQ:List (Bs×Bs)->List (Bs×Bs)->Prop
 |[],_=>True
 |(n,v)::ws,es=>dr n=true/\c7 es n=false/\es.length<=900/\bS v=true/\gQ ws (es++[(n,v)])
theorem iL:∀{T:List (Bs×Bs)}{r:Bs},ak T r=ak T []++r:=by
 intro zi
 induction zi with
 |nil=>
 exact @λr=>rfl
 |cons zp T ih=>
 obtain⟨g,w⟩:=zp;exact @λr=>by show g++(w++ak T r)=(g++(w++ak T []))++r;rw[ih,List.append_assoc,List.append_assoc]
theorem im:∀{T:List (Bs×Bs)}{r:Bs},(ak T r).length=ba T+r.length:=by
 intro zi
 induction zi with
 |nil=>
 exact @λr=>(EO _).symm
 |cons zp T ih=>
 obtain⟨g,w⟩:=zp;exact @λr=>by show(g++(w++ak T r)).length=g.length+w.length+ba T+r.length;rw[List.length_append,List.length_append,ih];exact amd
theorem ab5:∀{q:List d7}{r:Bs},ak (ez q) r=dt q r:=by
 intro zi
 induction zi with
 |nil=>
 exact @λr=>rfl
 |cons zp q ih=>
 obtain⟨g,v,g',m⟩:=zp;exact @λr=>by show g++(v++(g'++(m++ak (ez q) r)))=_;rw[ih];rfl
theorem acu:∀{q:List d7},ba (ez q)=eK q:=by
 intro zi
 induction zi with
 |nil=>
 exact rfl
 |cons zp q ih=>
 obtain⟨g,v,g',m⟩:=zp;exact by
  show g.length+v.length+(g'.length+m.length+ba (ez q))=_;rw[ih,nQ,CX (g.length+v.length)]
theorem ahC{n:Bs}(h:dr n=true):bS n=true:=by
 have a:([aW,aV,aZ,aU,bX,aQ].all bS)=true:=by decide
 exact CV.mp a n (qS (.inl h))
theorem sP:∀(ws es T:List (Bs×Bs)),T.map (·.2)=jN ws->(∀t∈T,wO t.1)->gQ ws es->
  ∃g0 n0 q,T=(g0,n0)::ez q/\wO g0/\bS n0=true/\gS q n0 es/\kH q n0=ws/\q.length=ws.length:=by
 intro zi
 induction zi with
 |nil=>
 exact @λes T h hg Z=>by
  cases T with
  |nil=>cases h
  |cons t T=>
   cases T with
   |cons _ _=>exact nomatch (GW h).2
   |nil=>obtain⟨g,w⟩:=t;obtain rfl:w=aQ:=(GW h).1;exact(ce g aQ [] rfl (hg _ (Ds ..)) (by decide) (bT rfl rfl rfl))
 |cons zp ws ih=>
 obtain⟨n,v⟩:=zp;exact @λes T h hg hn=>by
  cases T with
  |nil=>cases h
  |cons t T=>
   cases T with
   |nil=>cases h
   |cons t' T=>
    obtain⟨g,w⟩:=t;obtain⟨g',w'⟩:=t';injection h with h1 h2;injection h2 with h2 h3;cases h1;cases h2;(refine o_eeeaaa (ih _ T h3 (λt ht=>hg t (Dm _ (Dm _ ht))) hn.2.2.2.2) λg0 n0 q zq3 a1 a2=>r_aa λa3 a4 a5=>?_;clear h3;subst zq3);refine(ce g _ ((g',_,g0,n0)::q) rfl (hg _ (Ds ..)) (ahC hn.1) (bT (dv hn.1 hn.2.1 hn.2.2.1 (hg _ (Dm _ (Ds ..))) hn.2.2.2.1 a1 (bE a2 a3)) ?_ ?_))
    ·show(_,_)::kH q n0=_;rw[a4]
    ·rw[Dc,Dc,a5]
theorem sT{n k v:Bs}:c7 (es++[(n,v)]) k=(c7 es k||n==k):=by unfold c7;rw[List.any_append,IW,List.any_nil,Gn]
theorem ahT:∀{ws es:List (Bs×Bs)},gQ ws es->∀x∈ws,c7 es x.1=false:=by
 intro zi
 induction zi with
 |nil=>
 exact @λZ Z x hx=>by cases hx
 |cons zp ws ih=>
 obtain⟨n,v⟩:=zp;exact @λes h x hx=>by
  cases hx with
  |head=>exact h.2.1
  |tail _ hx=>have:=ih h.2.2.2.2 x hx;rw[sT,ET] at this;exact this.1
theorem nR:∀{ws es:List (Bs×Bs)}{n v:Bs},gQ ws es->(n,v)∈ws->cN ws n=some v:=by
 intro zi
 induction zi with
 |nil=>
 exact @λZ Z Z Z hx=>by cases hx
 |cons zp ws ih=>
 obtain⟨m,u⟩:=zp;exact @λes n v h hx=>by
  unfold cN;rw[Jd]
  cases hx with
  |head=>rw[show((m,u).1==m)=true from Du _];rfl
  |tail _ hx=>have:=ahT h.2.2.2.2 _ hx;rw[sT,ET] at this;rw[show((m,u).1==n)=false from this.2];exact ih h.2.2.2.2 hx
theorem acz{n v:Bs}(h:cN ws n=some v):(n,v)∈ws:=by
 unfold cN at h
 cases e:ws.find? λe=>e.1==n with
 |none=>rw[e] at h;cases h
 |some x=>rw[e] at h;obtain⟨a,b⟩:=x;have h1:=KU (p:=λe:Bs×Bs=>e.1==n) e;obtain rfl:b=v:=C0 h;obtain rfl:a=n:=eq_of_beq h1;exact La e
structure Text(T ws:List (Bs×Bs)):Prop where
 words:T.map (·.2)=jN ws
 wE:∀t∈T,wO t.1
 names:gQ ws []
 few:ws.length<400
def eQ(c:UInt8):Prop:=(bl c||c==35)=true
theorem oX{r:Bs}(h:eQ c):wd (c::r)=[]:=by rw[i9,CG (show(bl c||c==35)=true from h)]
theorem apZ{r:Bs}(h:eQ c):∀k,wd ((c::r).take k)=[]:=by
 intro zi
 induction zi with
 |zero=>
 exact rfl
 |succ k ih=>
 exact oX h
section
variable {r:Bs}{nums:List Int}
theorem abB{x:Bs}:(aq++x).drop 2=x:=rfl
theorem aey{x:Bs}:(aq++x).take 2=aq:=rfl
theorem aqn(h:Text T ws)(hr:wd r=[])(ho:(aq++ak T r).length<100000):run (n+3) 16 [.bytes (aq++ak T r)] H=.ok (.tup [.ref H.length,.int ((2+ba T:Nat))]) (H++[tab ws]):=by(refine o_eeeaaa (sP ws [] T h.words h.wE h.names) λg0 n0 q zq3 a1 a2=>r_aa λa3 a4 a5=>?_;clear h;subst zq3);have e:=aif (n:=n) (H:=H) (r:=r) ho (by rw[abB];show g0++(n0++ak (ez q) r)=_;rw[ab5]) a1 a2 hr a3;rw[a4] at e;rw[e];show _=R.ok (AV.tup [.ref H.length,.int ((2+(g0.length+n0.length+ba (ez q)):Nat))]) _;rw[acu,CX]
theorem aqm(h:Text T ws)(hs:s<ba T)(ho:(aq++(ak T []).take s).length<100000):∃o':AO,run (n+3) 16 [.bytes (aq++(ak T []).take s)] H=.exc (if cU true T s=true then 2 else 1) (H++[o']):=by
 (refine o_eeeaaa (sP ws [] T h.words h.wE h.names) λg0 n0 q zq3 a1 a2=>r_aa λa3 a4 a5=>?_;subst zq3);have xp:s<g0.length+n0.length+eK q:=by rw[<-acu];exact hs
 exact aih ho (by rw[List.length_append];exact Nat.le_add_right _ _) (by rw[abB];show(g0++(n0++ak (ez q) [])).take s=_;rw[ab5]) a1 a2 a3 xp (by have:=h.few;exact a5▸CM this (by decide))
theorem aeD(h:Text T ws)(hr:wd r=[])(ho:(aq++ak T r).length<100000)(t:Told ws nums){w hh d m:Int}(hn:nums=[w,hh,d,m])
  (k:∀H' q a4,Fr H.length H.length H H'->H'[H.length]?=some (tab ws)->W (CE (af (n+3)) mt [.bytes (aq++ak T r),.ref H.length,.int ((2+ba T:Nat)),.ref q,a4,.int w,.int hh,.int d,.int m,.undef,.undef] H') Q E):
  W (CE (af (n+3)) fV ([.bytes (aq++ak T r)]++CK 10 .undef) H) Q E:=by
 have l1:H.length<(H++[tab ws]).length:=by rw[List.length_append];exact DU _
 refine aju aey (aqn h hr ho) ⟨n+2,rfl⟩ aC t hn λH' q a4 f=>k H' q a4 ((Fr.app (Nat.le_refl _)).trans ((f.less (CN l1)).any (CN l1))) (f.gt l1 (CP l1) aC)
structure Right(ws:List (Bs×Bs))(w h d p:Nat):Prop where
 told:Told ws [(w:Int),h,d,2^p-1]
 kind:∀v,cN ws bX=some v->v=dU d
 dd:xe d
 ww:1<=w/\w<=100
 hh:1<=h/\h<=100
 pp:2<=p/\p<=16
theorem Right.as8(g:Right ws w h d p):((decide (1<=(w:Int))&&decide ((w:Int)<=65535))&&(decide (1<=(h:Int))&&decide ((h:Int)<=65535)))=true:=by have:=g.ww;have:=g.hh;simp only[Bool.and_eq_true,C3];exact amf (by assumption) this
theorem sN(x:Text T ws)(g:Right ws w h d p)(hr:wd r=[])(ho:(aq++ak T r).length<100000)
  (k:∀H' q a4,Fr H.length H.length H H'->W (CE (af (n+3)) oK [.bytes (aq++ak T r),.ref H.length,.int ((2+ba T:Nat)),.ref q,a4,.int w,.int h,.int d,.int (2^p-1),.int p,.undef] H') Q E):
  W (CE (af (n+3)) fV ([.bytes (aq++ak T r)]++CK 10 .undef) H) Q E:=
 aeD x hr ho g.told rfl λH' q a4 f ht=>r9 g.as8 (adQ g.dd ht g.kind (aoz g.pp (k H' q a4 f)))
theorem abC:(aq++ak T (c::rest)).drop (2+ba T+1)=rest:=by
 have e:aq++ak T (c::rest)=(aq++(ak T []++[c]))++rest:=by rw[iL,List.append_assoc,List.append_assoc];rfl
 have l:(aq++(ak T []++[c])).length=2+ba T+1:=by rw[List.length_append,List.length_append,im];rfl
 rw[e,<-l,KN]
theorem iT:(aq++ak T (c::rest)).length=2+ba T+1+rest.length:=by rw[List.length_append,im,Dc];show 2+_=_;exact aml
theorem acH{more:Bs}(x:Text T ws)(g:Right ws w h d p)(hc:eQ c)(ho:(aq++ak T (c::(aE (ah p) (av f w h d)++more))).length<100000)(hf:∀y∈av f w h d,y<2^p):
  ∃v H',run (n+4) 17 [.bytes (aq++ak T (c::(aE (ah p) (av f w h d)++more)))] H=.ok v H'/\Fr H.length H.length H H'/\tL H.length H' v (br d) p (bJ f w h d):=by
 have h0:av f w h d≠[]:=by
  intro e;have l:=fZ (f:=f) (w:=w) (h:=h) (d:=d);rw[e] at l;have:0<h*w*d:=Hk (Hk g.hh.1 g.ww.1) (by clear ho hf e l;rcases g.dd with rfl |rfl |rfl<;>decide)
  rw[<-l] at this;exact CS _ this
 have w0:=dG (n:=n+3) (k:=17) (np:=1) (nv:=11) (bd:=fV) (vs:= [.bytes (aq++ak T (c::(aE (ah p) (av f w h d)++more)))]) (H:=H) (Q:=λv H'=>Fr H.length H.length H H'/\tL H.length H' v (br d) p (bJ f w h d)) (E:=bC) rfl rfl
  (sN x g (oX hc) ho λH1 q a4 f1=>aox (f:=f) (by have:=g.ww;exact ado this) (by have:=g.hh;exact ado this) g.dd (by
   have:=aki (n:=n+2) (H:=H1) (p:=p) ho abC (by rw[iT];exact Nat.le_add_right _ _) h0 g.pp.2 hf;rw[fZ] at this;exact this) λv H2 f2 pa=>⟨f1.trans ((f2.less f1.le).any f1.le),pa.u9 f1.le⟩)
 obtain⟨v,H',e,h1,h2⟩:=w0.ok;exact(ax v H' e h1 h2)
theorem ajs{y:Nat}(x:Text T ws)(g:Right ws w h d p)(hc:eQ c)(ho:(aq++ak T (c::aE (ah p) fl)).length<100000)(hl:fl.length=h*w*d)(hf:∀y∈fl,y<256^ah p)(hy:y∈fl)(hb:2^p<=y):
  ∃H',run (n+4) 17 [.bytes (aq++ak T (c::aE (ah p) fl))] H=.exc 2 H'/\Fr H.length H.length H H':=by
 have y8:d<=4:=by clear hl;rcases g.dd with rfl |rfl |rfl<;>decide
 have w0:=dG (n:=n+3) (k:=17) (np:=1) (nv:=11) (bd:=fV) (vs:= [.bytes (aq++ak T (c::aE (ah p) fl))]) (H:=H) (Q:=λZ Z=>False) (E:=λj H'=>j=2/\Fr H.length H.length H H') rfl rfl
  ((sN x g (oX hc) ho λH1 q a4 f1=>adR (Nat.lt_of_le_of_lt y8 (by decide)) (by have:=g.hh;exact ads this) (by
   have:=akg (n:=n+2) (H:=H1) (p:=p) (r:= []) ho (by rw[abC,Dk]) (by rw[iT];exact Nat.le_add_right _ _) g.pp.2 hf hy hb;rw[hl] at this;exact this) ⟨rfl,f1.trans ((Fr.app (Nat.le_refl _)).less f1.le |>.any f1.le)⟩).mono (Q:=λZ Z=>False) (λZ Z h=>h.elim) λZ Z h=>h)
 obtain⟨H',e,fx⟩:=w0.xc;exact(ae H' e fx)
theorem nV{w h d m:Int}(x:Text T ws)(t:Told ws [w,h,d,m])(hc:eQ c)(ho:(aq++ak T (c::rest)).length<100000)
  (hb:((decide (1<=w)&&decide (w<=65535))&&(decide (1<=h)&&decide (h<=65535)))=false\/((decide (1<=w)&&decide (w<=65535))&&(decide (1<=h)&&decide (h<=65535)))=true/\
   (d∈[0,2,5]\/∃k:Nat,d=k/\xe k/\(∀v,cN ws bX=some v->v=dU k)/\m∈[0,1,131071,2,6,254,65534])):
  ∃H',run (n+4) 17 [.bytes (aq++ak T (c::rest))] H=.exc 2 H'/\Fr H.length H.length H H':=by
 have w0:=dG (n:=n+3) (k:=17) (np:=1) (nv:=11) (bd:=fV) (vs:= [.bytes (aq++ak T (c::rest))]) (H:=H) (Q:=λZ Z=>False) (E:=λj H'=>j=2/\Fr H.length H.length H H') rfl rfl
  ((aeD x (oX hc) ho t rfl λH1 q a4 f1 ht=>by
   rcases hb with hb |⟨hb,hd |⟨k,rfl,hk,hv,hm⟩⟩
   ·exact aoA hb ⟨rfl,f1⟩
   ·exact r9 hb (aow hd ⟨rfl,f1⟩)
   ·exact r9 hb (adQ hk ht hv (aoy hm ⟨rfl,f1⟩))).mono (Q:=λZ Z=>False) (λZ Z h=>h.elim) λZ Z h=>h)
 obtain⟨H',e,fx⟩:=w0.xc;exact(ae H' e fx)
theorem ajv(x:Text T ws)(g:Right ws w h d p)(hc:eQ c)(ho:(aq++ak T ((c::rest).take k)).length<100000)(hl:rest.length=h*w*d*ah p)(hk:k<1+rest.length):
  ∃H',run (n+4) 17 [.bytes (aq++ak T ((c::rest).take k))] H=.exc 1 H'/\Fr H.length H.length H H':=by
 have y8:d<=4:=by clear hl;rcases g.dd with rfl |rfl |rfl<;>decide
 have hmd:h*w*d<=100*100*4:=Er (Er g.hh.2 g.ww.2) y8;have w0:=dG (n:=n+3) (k:=17) (np:=1) (nv:=11) (bd:=fV) (vs:= [.bytes (aq++ak T ((c::rest).take k))]) (H:=H) (Q:=λZ Z=>False) (E:=λj H'=>j=1/\Fr H.length H.length H H') rfl rfl
  ((sN x g (apZ hc k) ho λH1 q a4 f1=>adR (Nat.lt_of_le_of_lt y8 (by decide)) (by have:=g.hh;exact ads this) (akh (n:=n+2) (H:=H1) (p:=p) (Nat.lt_of_le_of_lt hmd (by decide)) (by
   rw[List.length_append,im,Dg,<-hl];show 2+_<_;exact amV hl hk)) ⟨rfl,f1⟩).mono (Q:=λZ Z=>False) (λZ Z h=>h.elim) λZ Z h=>h)
 obtain⟨H',e,fx⟩:=w0.xc;exact(ae H' e fx)
theorem ajt(x:Text T ws)(hs:s<ba T)(ho:(aq++(ak T []).take s).length<100000):∃H',run (n+4) 17 [.bytes (aq++(ak T []).take s)] H=.exc (if cU true T s=true then 2 else 1) H'/\Fr H.length H.length H H':=by obtain⟨H',e⟩:=aqm (n:=n) (H:=H) x hs ho;exact(ae _ (gv (np:=1) (nv:=11) (bd:=fV) rfl rfl (Sc (fN (adI aey) Sn) (Se (by rw[E5.assign];exact X2 (aK (Xo (Xv rfl rfl)) e))))) (.app (Nat.le_refl _)))
theorem ajw(h:o.length<2):run (n+4) 17 [.bytes o] H=.exc 0 H:=by
 have e:dA H (.bytes o) [] [.int 2] []=.ok (.bytes (o.take 2)) H:=by show au R.bad (cg 2) (R.ok (AV.bytes (o.take 2)) H)=_;unfold au;rw[CG (by decide)]
 have ne:(o.take 2==aq)=false:=EG λq=>by have:=CH DI q;rw[Dg] at this;change _=2 at this;exact am3 h this
 exact gv (np:=1) (nv:=11) (bd:=fV) rfl rfl (Se (d8 (aw (aM rfl (Xo (fT (Xv rfl rfl) aj (Xo Xi) aj e)) qp) Xy (jm ne)) (Se (fO rfl))))
end
section
theorem dp{top:Nat}(h:Bk b H)(h1:0<top)(h2:top<1000000000):∃(d:Nat)(H':AH),d<top/\run (n+1) 20 [.ref b,.int top] H=.ok (.int d) H'/\Fr b H.length H H'/\Bk b H':=by obtain⟨d,s,t,h3,e⟩:=ai2 (n:=n) h (show(0:Int)<top by exact akB h1 h2) (am6 h1 h2);exact(aiu d _ (C2.mp h3) e (.put (.inl rfl)) s (i_e t (iY h.lt)))
theorem ci(h:H[p]?=some (.list xs))(hv:xs[d]?=some v):eJ H (.ref p) (.int d)=some v:=by rw[ip h];unfold jy;rw[CG (DO d),DQ];exact hv
theorem eB{x y:Bs}(h:x.length+y.length<10000000):dc .add (.bytes x) (.bytes y) H=.ok (.bytes (x++y)) H:=by
 have e:(x++y).length<=al:=by rw[List.length_append];unfold al;exact Nat.le_trans (CN h) (by decide)
 exact CG e
noncomputable def fp:List Bs:= [[32],[9],[10],[11],[12],[13],[35,10],[35,32,87,73,68,84,72,32,55,32,35,10]]
noncomputable def gK:List Bs:= [[],[32],[13,10],[35,120,10]]
theorem apy(h:g∈fp)(x:Bs):sk false (g++x)=sk false x:=by unfold fp at h;simp only[CR,DE,DG] at h;rcases h with rfl |rfl |rfl |rfl |rfl |rfl |rfl |rfl<;>rfl
theorem apz(h:g∈gK)(x:Bs):sk false (g++x)=sk false x:=by unfold gK at h;simp only[CR,DE,DG] at h;rcases h with rfl |rfl |rfl |rfl<;>rfl
theorem apY(h:g∈fp)(x:Bs):wd (g++x)=[]:=by unfold fp at h;simp only[CR,DE,DG] at h;rcases h with rfl |rfl |rfl |rfl |rfl |rfl |rfl |rfl<;>rfl
theorem an6:(fp.all λx=>gK.all λy=>decide ((x++y).length<=16)&&(CL 17).all λk=>decide (sk false ((x++y).take k)=[]))=true:=by decide+kernel
theorem qW{x y:Bs}(hx:x∈fp)(hy:y∈gK):wO (x++y)/\(x++y).length<=16:=by
 have p:=CV.mp (CV.mp an6 x hx) y hy;rw[Bool.and_eq_true,C3] at p;have q:=λk hk=>Do (CV.mp p.2 k (Fj.mpr hk));refine⟨⟨λz=>by rw[List.append_assoc,apy hx,apz hy],λk=>?_,λz=>by rw[List.append_assoc];exact apY hx _⟩,p.1⟩
 by_cases c:k<17
 ·exact q k c
 ·have:=q 16 (by decide);rw[EB p.1] at this;rw[EB (by omega)];exact this
theorem ahW(h:Bk b H):∃g H',wO g/\g.length<=16/\run (n+2) 21 [.ref b] H=.ok (.bytes g) H'/\Fr b H.length H H'/\Bk b H':=by
 have l0:=h.lt;have e1:ev (af (n+1)) (.list (.cons (.s9 [32]) (.cons (.s9 [9]) (.cons (.s9 [10]) (.cons (.s9 [11]) (.cons (.s9 [12]) (.cons (.s9 [13]) (.cons (.s9 [35,10]) (.cons (.s9 [35,32,87,73,68,84,72,32,55,32,35,10]) .nil))))))))) 4 [.ref b,.undef] H=.ok (.ref H.length) (H++[.list (fp.map .bytes)]):=bB (ad Xy (ad Xy (ad Xy (ad Xy (ad Xy (ad Xy (ad Xy (ad Xy aj)))))))) (by decide)
 obtain⟨d,H1,hd,e2,f1,b1⟩:=dp (n:=n) (h.app (l:= [.list (fp.map .bytes)])) (top:=8) (by decide) (by decide);have g1:H1[H.length]?=some (.list (fp.map .bytes)):=f1.get (CW l0) aC;have i1:(fp.map AV.bytes)[d]?=some (.bytes (fp[d]'hd)):=by rw[C8,List.getElem?_eq_getElem hd];rfl
 have l1:H.length<=H1.length:=Nat.le_trans (by rw[List.length_append];exact Nat.le_add_right _ _) f1.le;have e3:∀x:AV,ev (af (n+1)) (.list (.cons (.s9 []) (.cons (.s9 [32]) (.cons (.s9 [13,10]) (.cons (.s9 [35,120,10]) .nil))))) 4 [.ref b,x] H1=.ok (.ref H1.length) (H1++[.list (gK.map .bytes)]):=λx=>bB (ad Xy (ad Xy (ad Xy (ad Xy aj)))) (by decide)
 obtain⟨k,H2,hk,e4,f2,b2⟩:=dp (n:=n) (b1.app (l:= [.list (gK.map .bytes)])) (top:=4) (by decide) (by decide);have g2:H2[H1.length]?=some (.list (gK.map .bytes)):=f2.get (CW (Nat.lt_of_lt_of_le l0 l1)) aC;have i2:(gK.map AV.bytes)[k]?=some (.bytes (gK[k]'hk)):=by rw[C8,List.getElem?_eq_getElem hk];rfl
 obtain⟨w1,w2⟩:=qW (FX (l:=fp) hd) (FX (l:=gK) hk);refine(dS _ H2 w1 w2 (dQ (np:=1) (nv:=2) (bd:=pV) rfl rfl ?_) ?_ b2)
 ·show CE (af (n+1)) pV [.ref b,.undef] H=_;exact Sc (aD (aR e1 (aK (ad (Xv rfl rfl) (ad Xi aj)) e2) (ci g1 i1))) (Sr (cR (am (Xv rfl rfl) (aR (e3 _) (aK (ad (Xv rfl rfl) (ad Xi aj)) e4) (ci g2 i2)) (eB (by rw[List.length_append] at w2;exact Nat.lt_of_le_of_lt w2 (by decide))))))
 ·exact((Fr.app (Nat.le_refl _)).trans (f1.less (by rw[List.length_append];exact Nat.le_add_right _ _))).trans ((Fr.app l1).trans (f2.less (by rw[List.length_append];exact FC l1)))
noncomputable def ad1(j:Nat):Str:=if j=1 then "cut" else if j=0 then "mark" else "range"
theorem aaj{b:tQ}{hs:xv}{t:R Fl}(hd:Γ.hd=false)(h:ev Γ e 4 ρ H=.exc j H1)(k':handle Γ j (.cons k b hs) ρ H1=t):exec Γ (.vK e (.cons k b hs)) ρ H=t:=by rw[E5.vK];rw[hd,h];exact k'
theorem mE{b:tQ}{hs:xv}(h:min k 2=min j 2):handle Γ j (.cons k b hs) ρ H=CE {Γ with C:=λZ Z Z=>.bad,hd:=true} b ρ H:=by rw[E7.cons];exact CG h
theorem pg{b:tQ}{hs:xv}(h:¬min k 2=min j 2):handle Γ j (.cons k b hs) ρ H=handle Γ j hs ρ H:=by
 conv=>lhs;rw[E7.cons]
 exact CJ h
theorem kI(h:run n 17 [.bytes o] H=.exc j H')(hj:j<=2):run (n+1) 26 [.bytes o] H=.ok (.str (ad1 j)) H':=by
 refine dQ (np:=1) (nv:=1) (bd:=qa) rfl rfl ?_;show CE (af n) qa [.bytes o] H=_;refine Sr (aaj rfl (aK (ad (Xv rfl rfl) aj) h) ?_);clear h;rcases j with _ |_ |_ |j
 ·exact(pg (by decide)).trans ((mE (by decide)).trans (Sr (cR Xs)))
 ·exact(mE (by decide)).trans (Sr (cR Xs))
 ·exact(pg (by decide)).trans ((pg (by decide)).trans ((mE (by decide)).trans (Sr (cR Xs))))
 ·exact(anl hj).elim
end
section
structure Seen(H:AH)(q:Nat)(f:Nat->Nat->Nat->Nat)(w h d:Nat)(pl:List AV):Prop where
 list:H[q]?=some (.list pl)
 len:pl.length=d
 cell:∀k,k<d->∃r ps,pl[k]?=some (.inst 0 [.int w,.int h,.ref r])/\H[r]?=some (.list ps)/\∀y,y<h->∃rp,ps[y]?=some (.ref rp)/\H[rp]?=some (row (gk f w k y))
theorem tE.seen(g:tE lo H q (bJ f w h d)):∃pl,Seen H q f w h d pl:=by obtain⟨_,pl,h1,h2,h3⟩:=g;refine⟨pl,h1,by rw[h2];unfold bJ;rw[List.length_map,DC],λk hk=>?_⟩;(obtain⟨v,e,r,zq3,zq4⟩:=h3 k (iW f w h k) (by unfold bJ;rw[C8,EL hk];rfl);subst zq3;obtain⟨_,ps,e2,e3,e4⟩:=zq4);refine(ax r ps e e2 (λy hy=>?_));obtain⟨rp,i1,_,i2⟩:=e4 y (gk f w k y) (by unfold iW;rw[C8,EL hy];rfl);exact(ae rp i1 i2)
theorem aoD{y x:Nat}(hx:x<w):((gk f w k y).map AV.int)[x]?=some (.int (f k y x)):=by unfold gk fE;rw[C8,C8,C8,EL hx];rfl
theorem ab4{y x:Nat}(hk:k<d)(hx:x<w)(hy:y<h):(av f w h d).take ((y*w+x)*d+k+1)=(av f w h d).take ((y*w+x)*d+k)++[f k y x]:=by rw[EW,ab2 hk hx hy];rfl
theorem aa3{pl:List AV}(g:Seen H q f w h d pl){y x j1 j2 j3:Nat}(hk:k<d)(hx:x<w)(hy:y<h)(h1:ρ[j1]?=pl[k]?)(h2:ρ[j2]?=some (.int y))(h3:ρ[j3]?=some (.int x)):
  ev (af n) (.idx (.idx (.attr (.var j1) 2) (.var j2)) (.var j3)) 4 ρ H=.ok (.int (f k y x)) H:=by
 obtain⟨r,ps,e1,e2,e3⟩:=g.cell k hk;obtain⟨rp,e4,e5⟩:=e3 y hy;exact aR (aR (ay (Xv (h1.trans e1) rfl) rfl) (Xv h2 rfl) (ci e2 e4)) (Xv h3 rfl) (ci e5 (aoD hx))
theorem mo{pl:List AV}(g:Seen H q f w h d pl)(hd:0<d):∃r,pl[0]?=some (.inst 0 [.int w,.int h,.ref r]):=by obtain⟨r,ps,e,_⟩:=g.cell 0 hd;exact⟨r,e⟩
theorem toB{i n:Int}{e:Str}(h:(e=="big")=true):dW H .toBytes (.int i) [.int n,.str e]=R.of ((ic i n).map AV.bytes) H:=by
 show au R.bad ((e=="big")=true) (R.of ((ic i n).map AV.bytes) H)=_
 unfold au;exact CG h
theorem afp{i:Int}(h:0<=i/\i<256):ic i 1=some [CT i.toNat]:=CG h
theorem afq{i:Int}(h:0<=i/\i<65536):ic i 2=some [CT (i.toNat/256),CT (i.toNat%256)]:=CG h
theorem aru{x:Nat}(hx:x<256^ah p):dW H .toBytes (.int x) [.int (ah p),.str "big"]=.ok (.bytes (fo (ah p) x)) H:=by
 have e:=toB (H:=H) (i:=x) (n:=ah p) (Du _);rw[e];have c:ah p=1\/ah p=2:=by unfold ah;split<;>simp
 rcases c with c |c
 ·rw[c] at hx⊢;rw[show ic (x:Int) ((1:Nat):Int)=_ from afp ⟨by exact ady hx,C2.mpr hx⟩,DQ];rfl
 ·rw[c] at hx⊢;rw[show ic (x:Int) ((2:Nat):Int)=_ from afq (i:=(x:Int)) ⟨by exact ady hx,C2.mpr hx⟩,DQ];rfl
theorem ad8{r:aB}(hr:r[j]?=some (.inst 1 [.str m,.int p,.ref q])):ev (af n) (.u5 (.cmp (.attr (.var j) 4) .lt (.s7 9)) (.s7 1) (.s7 2)) 4 r H=.ok (.int (ah p)) H:=by
 unfold ah
 by_cases c:p<=8
 ·rw[CG c];exact jR (aw (ay (Xv hr rfl) rfl) Xi (ii (C5 (anm c)))) Xi
 ·rw[CJ c];exact jQ (aw (ay (Xv hr rfl) rfl) Xi (ii (Dx (ano c)))) Xi
theorem abI{x:Nat}:(fo (ah p) x).length<=2:=by rw[j9];unfold ah;split<;>decide
theorem jo:(aE (ah p) fl).length<=fl.length*2:=by rw[jp];exact DW _ (by unfold ah;split<;>decide)
theorem si(g:tL lo H ua m p (bJ f w h d))(hd:0<d)(hw:w<=100)(hh:h<=100)(y8:d<=100)(hf:∀k y x,k<d->y<h->x<w->f k y x<256^ah p):
  run (n+1) 25 [ua] H=.ok (.bytes (aE (ah p) (av f w h d))) H:=by
 obtain⟨q,rfl,gq⟩:=g;obtain⟨pl,g⟩:=(gq.seen);obtain⟨r0,e0⟩:=mo g hd;have fb:(av f w h d).length<=1000000:=by rw[fZ];exact Er (Er hh hw) y8
 have w0:=dG (k:=25) (np:=1) (nv:=7) (bd:=qc) (vs:= [.inst 1 [.str m,.int p,.ref q]]) (Q:=λv H'=>v=.bytes (aE (ah p) (av f w h d))/\H'=H) (E:=bC) rfl rfl (by
  show W (CE (af n) qc [.inst 1 [.str m,.int p,.ref q],.undef,.undef,.undef,.undef,.undef,.undef] H) _ _;refine aG (dE rfl (cq (ad Xy (ad (ad8 rfl) aj))) rfl) (aG (aD (aR (ay (Xv rfl rfl) rfl) Xi (ci (d:=0) g.list e0))) (dj rfl (aM rfl (ad (ay (Xv rfl rfl) rfl) aj) (eO (k:=h) (mc hh))) (λy ρ Hc=>Hc=H/\∃a4 a5 a6,ρ=[.inst 1 [.str m,.int p,.ref q],.bytes (aE (ah p) ((av f w h d).take (y*w*d))),.int (ah p),.inst 0 [.int w,.int h,.ref r0],a4,a5,a6]) h ?_ ?_ (λy ρ Hc Gq Nq hy i uF kq=>?_) (λρ Hc i=>by rw[cr,CJ (CS _)]) λρ Hc i=>?_))
  ·show h<=((h:Int)-0).toNat;exact me hh
  ·exact(ny rfl _ _ _ (by rw[GI,GI,Ef];rfl))
  ·(revert i;refine r_aeee λzq0 a4 a5 a6 zq4=>?_;subst zq0;subst zq4);refine(kq (.int y) _ (by rw[cr,CG hy]) rfl (dj rfl (aM rfl (ad (ay (Xv rfl rfl) rfl) aj) (eO (k:=w) (mc hw))) (λx ρ Hd=>Hd=Hc/\∃a5 a6,ρ=[.inst 1 [.str m,.int p,.ref q],.bytes (aE (ah p) ((av f w h d).take ((y*w+x)*d))),.int (ah p),.inst 0 [.int w,.int h,.ref r0],.int y,a5,a6]) w ?_ (nq rfl _ _ rfl) (λx ρ Hd Gq Nq hx i uF kq=>?_) (λρ Hd i=>by rw[cr,CJ (CS _)]) λρ Hd i=>?_))
   ·show w<=((w:Int)-0).toNat;exact me hw
   ·(revert i;refine r_aee λzq0 a5 a6 zq3=>?_;subst zq0;subst zq3);refine(kq (.int x) _ (by rw[cr,CG hx]) rfl (dj rfl (ay (Xv rfl rfl) rfl) (λk ρ He=>He=Hd/\∃a6,ρ=[.inst 1 [.str m,.int p,.ref q],.bytes (aE (ah p) ((av f w h d).take ((y*w+x)*d+k))),.int (ah p),.inst 0 [.int w,.int h,.ref r0],.int y,.int x,a6]) d ?_ (ke rfl _ rfl) (λk ρ He Gq Nq hk i uF kq=>?_) (λρ He i=>?_) λρ He i=>?_))
    ·show d<=((az Hd q).getD []).length;rw[bq g.list];exact CZ g.len.symm
    ·(revert i;refine r_ae λzq0 a6 zq2=>?_;clear gq;subst zq0;subst zq2);obtain⟨r,ps,e1,_⟩:=g.cell k hk;have it:aS He (.ref q) k=some pl[k]? :=by
      show(match az He q with |some xs=>some xs[k]? |none=>none)=_
      rw[bq g.list]
     refine(kq _ _ (it.trans (CH some e1)) rfl (aG (aD (am (Xv rfl rfl) (cS rfl (aa3 g hk hx hy (j1:=6) (j2:=4) (j3:=5) e1.symm rfl rfl) rfl (ad (Xv rfl rfl) (ad Xs aj)) (aru (hf k y x hk hy hx))) (eB ?_))) (bA (uF _ _ (ke rfl (.inst 0 [.int w,.int h,.ref r]) ?_)))))
     ·have:=jo (p:=p) (fl:=(av f w h d).take ((y*w+x)*d+k));have:=abI (p:=p) (x:=f k y x);rw[Dg] at*;exact Nat.lt_of_le_of_lt (C7 (Nat.le_trans (by assumption) (Eb 2 (Nat.le_trans (DV ..) fb))) this) (by decide)
     ·have e2:aE (ah p) ((av f w h d).take ((y*w+x)*d+(k+1)))=aE (ah p) ((av f w h d).take ((y*w+x)*d+k))++fo (ah p) (f k y x):=by
       rw[<-CX,ab4 hk hx hy,abJ];exact CH _ (Dk _)
      rw[e2];rfl
    ·(revert i;refine r_ae λzq0 a6 zq2=>?_;clear gq uF kq;subst zq0;subst zq2);show(match az He q with |some xs=>some xs[d]? |none=>none)=_
     rw[bq g.list];exact CH some (Dq (CZ g.len))
    ·(revert i;refine r_ae λzq0 a6 zq2=>?_;clear gq g kq;subst zq0;subst zq2);exact bA (uF _ _ (nq rfl _ _ (by rw[<-CX,Fa])))
   ·(revert i;refine r_aee λzq0 a5 a6 zq3=>?_;clear gq g kq;subst zq0;subst zq3);exact bA (uF _ _ (ny rfl _ _ _ (by rw[Fa])))
  ·(revert i;refine r_aeee λzq0 a4 a5 a6 zq4=>?_;clear gq g;subst zq0;subst zq4);exact dF (Xv rfl rfl) ⟨by rw[EB (by rw[fZ];exact Nat.le_refl _)],rfl⟩)
 (obtain⟨v,H',e,zq3,zq4⟩:=(w0.ok);subst zq3;clear gq g w0;subst zq4);exact e
end
theorem apu{x y:AO}:(H++[x]).set H.length y=H++[y]:=by rw[Le _ _ (Nat.le_refl _),FH];rfl
theorem Seen.app{pl:List AV}(g:Seen H q f w h d pl):Seen (H++l) q f w h d pl:=by obtain⟨h1,h2,h3⟩:=g;refine⟨aH h1,h2,λk hk=>?_⟩;obtain⟨r,ps,e1,e2,e3⟩:=h3 k hk;refine(ax r ps e1 (aH e2) (λy hy=>?_));obtain⟨rp,e4,e5⟩:=e3 y hy;exact(ae rp e4 (aH e5))
section
theorem apq(gq:tE lo H q (bJ f w h d))(hd:0<d)(hw:w<=100)(hh:h<=100)(y8:d<=100):
  run (n+1) 8 [.ref q] H=.ok (.ref H.length) (H++[.list (aA (av f w h d))]):=by
 obtain⟨pl,g⟩:=gq.seen;obtain⟨r0,e0⟩:=mo g hd;have fb:(av f w h d).length<=1000000:=by rw[fZ];exact Er (Er hh hw) y8
 have g':∀l,Seen (H++l) q f w h d pl:=λl=>g.app;have w0:=dG (k:=8) (nv:=5) (bd:=qj) (vs:= [.ref q]) (Q:=λv H'=>v=.ref H.length/\H'=H++[.list (aA (av f w h d))]) (E:=bC) rfl rfl (by
  show W (CE (af n) qj [.ref q,.undef,.undef,.undef,.undef] H) _ _;refine aG (aD (bB aj (by decide))) (dj rfl (aM rfl (ad (ay (aR (Xv rfl rfl) Xi (ci (d:=0) (g' _).list e0)) rfl) aj) (eO (k:=h) (mc hh))) (λy ρ Hc=>Hc=H++[.list (aA ((av f w h d).take (y*w*d)))]/\∃a2 a3 a4,ρ=[.ref q,.ref H.length,a2,a3,a4]) h ?_ ?_ (λy ρ Hc Gq Nq hy i uF kq=>?_) (λρ Hc i=>by rw[cr,CJ (CS _)]) λρ Hc i=>?_)
  ·show h<=((h:Int)-0).toNat;exact me hh
  ·exact(ny (by rw[GI,GI,Ef];rfl) _ _ _ rfl)
  ·(revert i;refine r_aeee λzq0 a2 a3 a4 zq4=>?_;subst zq0;subst zq4);refine(kq (.int y) _ (by rw[cr,CG hy]) rfl (dj rfl (aM rfl (ad (ay (aR (Xv rfl rfl) Xi (ci (d:=0) (g' _).list e0)) rfl) aj) (eO (k:=w) (mc hw))) (λx ρ Hd=>Hd=H++[.list (aA ((av f w h d).take ((y*w+x)*d)))]/\∃a3 a4,ρ=[.ref q,.ref H.length,.int y,a3,a4]) w ?_ (nq rfl _ _ rfl) (λx ρ Hd Gq Nq hx i uF kq=>?_) (λρ Hd i=>by rw[cr,CJ (CS _)]) λρ Hd i=>?_))
   ·show w<=((w:Int)-0).toNat;exact me hw
   ·(revert i;refine r_aee λzq0 a3 a4 zq3=>?_;subst zq0;subst zq3);refine(kq (.int x) _ (by rw[cr,CG hx]) rfl (dj rfl (Xv rfl rfl) (λk ρ He=>He=H++[.list (aA ((av f w h d).take ((y*w+x)*d+k)))]/\∃a4,ρ=[.ref q,.ref H.length,.int y,.int x,a4]) d ?_ (ke rfl _ rfl) (λk ρ He Gq Nq hk i uF kq=>?_) (λρ He i=>?_) λρ He i=>?_))
    ·show d<=((az _ q).getD []).length;rw[bq (g' _).list];exact CZ g.len.symm
    ·(revert i;refine r_ae λzq0 a4 zq2=>?_;subst zq0;subst zq2);obtain⟨r,ps,e1,_⟩:=g.cell k hk;have it:aS (H++[.list (aA ((av f w h d).take ((y*w+x)*d+k)))]) (.ref q) k=some pl[k]? :=by
      show(match az _ q with |some xs=>some xs[k]? |none=>none)=_
      rw[bq (g' _).list]
     refine(kq _ _ (it.trans (CH some e1)) rfl (aG (eU (cS rfl (Xv rfl rfl) (iD aC) (ad (aa3 (g' _) hk hx hy (j1:=4) (j2:=2) (j3:=3) e1.symm rfl rfl) aj) (iE aC ?_)) rfl) (bA (uF _ _ (ke ?_ (.inst 0 [.int w,.int h,.ref r]) rfl)))))
     ·unfold aA al;rw[List.length_map,Dg];exact Nat.lt_of_le_of_lt (Nat.le_trans (DV ..) fb) (by decide)
     ·rw[apu,<-CX,ab4 hk hx hy];unfold aA;rw[Dr];rfl
    ·(revert i;refine r_ae λzq0 a4 zq2=>?_;subst zq0;subst zq2);show(match az _ q with |some xs=>some xs[d]? |none=>none)=_
     rw[bq (g' _).list];exact CH some (Dq (CZ g.len))
    ·(revert i;refine r_ae λzq0 a4 zq2=>?_;subst zq0;subst zq2);exact bA (uF _ _ (nq (by rw[<-CX,Fa]) _ _ rfl))
   ·(revert i;refine r_aee λzq0 a3 a4 zq3=>?_;subst zq0;subst zq3);exact bA (uF _ _ (ny (by rw[Fa]) _ _ _ rfl))
  ·(revert i;refine r_aeee λzq0 a2 a3 a4 zq4=>?_;subst zq0;subst zq4);exact dF (Xv rfl rfl) ⟨rfl,by rw[EB (by rw[fZ];exact Nat.le_refl _)]⟩)
 (obtain⟨v,H',e,zq3,zq4⟩:=w0.ok;subst zq3;subst zq4);exact e
end
noncomputable def oV(a b:Nat):AV:=.tup [.int a,.int b]
noncomputable def ck:Nat->List (Bs×Bs)->List (Nat×Nat)
 |_,[]=>[]
 |i,(g,w)::T=>(i+g.length,i+g.length+w.length)::ck (i+g.length+w.length) T
theorem oW:∀{T:List (Bs×Bs)}{i:Nat},(ck i T).length=T.length:=by
 intro zi
 induction zi with
 |nil=>
 exact @λi=>rfl
 |cons zp T ih=>
 obtain⟨g,w⟩:=zp;exact @λi=>CH Nat.succ ih
theorem sC:∀{T:List (Bs×Bs)}{i j:Nat}{x:Nat×Nat},(ck i T)[j]?=some x->i<=x.1
 |[],i,j,x,h=>by cases h
 |(g,w)::T,i,0,x,h=>by cases h;exact Nat.le_add_right _ _
 |(g,w)::T,i,j+1,x,h=>by have:=sC (T:=T) h;exact anp this
theorem ag2:∀(T:List (Bs×Bs))(e:Bool)(i s:Nat),(∀t∈T,0<t.2.length)->∃c,c<=T.length/\(∀j x,(ck i T)[j]?=some x->(x.1<i+s↔j<c))/\
  (cU e T s=true↔∃x,0<c/\(ck i T)[c-1]?=some x/\(c-1)%2=(if e then 0 else 1)/\i+s<x.2):=by
 intro zi
 induction zi with
 |nil=>
 exact @λe i s Z=>(aI 0 (Nat.le_refl _) (λj x h=>(by cases h)) ⟨λh=>(by cases h),λzl=>o_ea zl λx h Z=>CI h (CS _)⟩)
 |cons zp T ih=>
 obtain⟨g,w⟩:=zp;exact @λe i s hw=>by
  have pw:=hw _ (Ds ..);change 0<w.length at pw
  by_cases c1:s<g.length+w.length
  ·rw[iH c1]
   by_cases c2:g.length<s
   ·refine(aI 1 (EE (DY _)) (λj x h=>?_) ?_)
    ·cases j with
     |zero=>cases h;exact⟨λZ=>EZ,λZ=>by show i+g.length<i+s;exact anq c2⟩
     |succ j=>have:=sC (T:=T) h;exact⟨λq=>by exact anr c1 this q,λq=>by exact ans q⟩
    ·rw[C5 c2,IB];constructor
     ·rintro rfl;exact(cY _ EZ rfl rfl (by show i+s<i+g.length+w.length;exact ant c1))
     ·intro y0;obtain⟨x,_,h1,h2,h3⟩:=y0
      cases e with
      |true=>rfl
      |false=>cases h2
   ·refine(aI 0 (DY _) (λj x h=>?_) ?_)
    ·cases j with
     |zero=>cases h;exact⟨λq=>(by change i+g.length<i+s at q;exact CI (LG q) c2),λq=>CI q (CS _)⟩
     |succ j=>have:=sC (T:=T) h;exact⟨λq=>by exact anu c1 this q,λq=>by exact anv q⟩
    ·rw[Dx c2,HG];exact⟨λh=>(by cases h),λzl=>o_ea zl λx h Z=>CI h (CS _)⟩
  ·rw[j8 c1];refine o_eaa (ih (!e) (i+g.length+w.length) (s-(g.length+w.length)) λt ht=>hw t (Dm _ ht)) λc h1 h2 h3=>?_;rw[show i+g.length+w.length+(s-(g.length+w.length))=i+s by exact anw c1] at h2 h3;refine(aI (c+1) (EE h1) (λj x h=>?_) ?_)
   ·cases j with
    |zero=>cases h;exact⟨λZ=>FI _,λZ=>by show i+g.length<i+s;exact anx pw c1⟩
    |succ j=>exact(h2 j x h).trans ⟨Nat.succ_lt_succ,FG⟩
   ·rw[h3];constructor
    ·intro y0;obtain⟨x,q1,q2,q3,q4⟩:=y0;refine(cY x (FI _) ?_ ?_ q4)
     ·rw[GC];clear h1 h2 h3 q3;obtain⟨c',rfl⟩:=Jo (CW q1);exact q2
     ·clear h3;cases e
      ·change _=1;change _=0 at q3;exact anz q1 q3
      ·change _=0;change _=1 at q3;exact anA q1 q3
    ·intro y0;obtain⟨x,_,q2,q3,q4⟩:=y0;rw[GC] at q2 q3
     cases c with
     |zero=>cases q2;exfalso;change i+s<i+g.length+w.length at q4;exact anB c1 q4
     |succ c=>
      refine(cY x (FI _) q2 ?_ q4);clear h3;cases e
      ·change _=0;change _=1 at q3;exact anC q3
      ·change _=1;change _=0 at q3;exact anD q3
def c6(l:List (Nat×Nat)):List AV:=l.map λx=>oV x.1 x.2
noncomputable def iX(T:List (Bs×Bs))(s:Nat):Str:=if s<2 then "mark" else if cU true T (s-2)=true then "range" else "cut"
section
theorem ajV(h:H[p]?=some (.list xs))(h2:H[q]?=some (.list [])):bj H .ne (.ref p) (.ref q)=some (!xs.isEmpty):=by
 show((aJ (il (.ref p) (.ref q)) (az H p) λxs=>aJ none (az H q) λys=>if xs.length=ys.length then fe (de H 3) xs ys else some false)).map (!·)=_
 rw[bq h,bq h2]
 cases xs with
 |nil=>rfl
 |cons x xs=>rfl
theorem aiB{c:Nat}(h:H[p]?=some (.list ((CL (c+1)).map λj:Nat=>AV.int j))):eJ H (.ref p) (.int (-1))=some (.int c):=by rw[ip h];unfold jy;rw[CJ (by decide),List.length_map,DC,CG anE,show((-1:Int)+(c+1:Nat)).toNat=c by exact anF,C8,EL (DU c)];rfl
theorem gf(h:H[p]?=some (.list xs)):cT H .len [.ref p]=.ok (.int xs.length) H:=by show aJ _ (az H p) _=_;rw[bq h];rfl
theorem ajF{c:Nat}:dc .mod (.int c) (.int 2) H=.ok (.int ((c%2:Nat))) H:=by rw[mB (by decide),GR _ (by decide)];rfl
theorem agL(yu:H[sp]?=some (.list (c6 (ck 2 T))))(hT:∀t∈T,0<t.2.length)(hl:T.length<1000):∃H',run (n+1) 27 [.ref sp,.int s] H=.ok (.str (iX T s)) H'/\Fr H.length H.length H H':=by
 have ls:(c6 (ck 2 T)).length=T.length:=by unfold c6;rw[List.length_map,oW]
 obtain⟨c,hc,h2,h3⟩:=ag2 T true 2 (s-2) hT;have w0:=dG (k:=27) (bd:=pU) (vs:= [.ref sp,.int s]) (Q:=λv H'=>v=.str (iX T s)/\Fr H.length H.length H H') (E:=bC) rfl rfl (by
  show W (CE (af n) pU [.ref sp,.int s,.undef,.undef] H) _ _;refine fj (aw (Xv rfl rfl) Xi (ii (y:=2) (r:=decide (s<2)) (HA.mpr anG))) (λe=>dF Xs ⟨?_,.refl⟩) λe=>bA ?_
  ·unfold iX;rw[CG (Do e)]
  have hs:=of_decide_eq_false e;rw[show 2+(s-2)=s by exact(EX (Dj hs))] at h2 h3;have w1:W (ev (af n) (.comp (.var 3) [3] true (.bi .range (.cons (.bi .len (.cons (.var 0) .nil)) .nil)) .nil (.cons (.cmp (.idx (.idx (.var 0) (.var 3)) (.s7 0)) .lt (.var 1)) .nil)) 4 [.ref sp,.int s,.undef,.undef] H) (λv H'=>v=.ref H.length/\H'=H++[.list ((CL c).map λj:Nat=>AV.int j)]) bC:=by
   refine aak rfl (aM rfl (ad (aM rfl (ad (Xv rfl rfl) aj) (gf yu)) aj) (eO (ls▸CM hl (by decide)))) (λj acc Hc=>Hc=H/\acc=(CL (min j c)).map λj:Nat=>AV.int j) T.length ?_ ?_ (λj acc Hc hj i=>?_) (λacc Hc i=>?_) λacc Hc i=>?_
   ·show T.length<=(((c6 (ck 2 T)).length:Int)-0).toNat;exact CZ (id (Fv ls))
   ·exact⟨rfl,by rw[Nat.zero_min];rfl⟩
   ·obtain⟨rfl,rfl⟩:=i;obtain⟨x,hx⟩:∃x,(ck 2 T)[j]?=some x:=⟨_,List.getElem?_eq_getElem (by rw[oW];exact hj)⟩;have hv:(c6 (ck 2 T))[j]?=some (oV x.1 x.2):=by unfold c6;rw[C8,hx];rfl
    have ec:ev (af n) (.cmp (.idx (.idx (.var 0) (.var 3)) (.s7 0)) .lt (.var 1)) 3 [.ref sp,.int s,.undef,.int j] Hc=.ok (.bool (decide (x.1<s))) Hc:=aw (aR (aR (Xv rfl rfl) (Xv rfl rfl) (ci yu hv)) Xi (z:=.int x.1) rfl) (Xv rfl rfl) (ii (HA.mpr C2));have hd:=h2 j x hx;refine(ax (.int j) _ (by rw[cr,CG (by rw[ls];exact hj)]) rfl ?_)
    by_cases q:x.1<s
    ·rw[C5 q] at ec;have jc:=hd.mp q;refine(bR true _ (bV ec gC) ?_);rw[CG rfl];refine W.of (Xv rfl rfl) ⟨rfl,?_⟩;rw[ED (CN jc),ED jc,Jl,Dr];rfl
    ·rw[Dx q] at ec;have jc:=λz=>q (hd.mpr z);refine(bR false _ (eV ec) ?_);rw[CJ (by decide)];exact⟨rfl,by rw[Fn (Dj jc),Fn (GE jc)]⟩
   ·rw[cr,CJ (by rw[ls];exact CS _)]
   ·obtain⟨rfl,rfl⟩:=i;rw[Fn hc];exact⟨by rw[List.length_map,DC];unfold al;exact anH hl ls hc,rfl,rfl⟩
  (obtain⟨v,H1,e1,zq3,zq4⟩:=w1.ok;subst zq3;subst zq4);refine aG (aD e1) ?_;have f2:Fr H.length H.length H (H++[.list ((CL c).map λj:Nat=>AV.int j)]++[.list []]):=by rw[List.append_assoc];exact .app (Nat.le_refl _)
  have e2:ev (af n) (.cmp (.var 2) .ne (.list .nil)) 4 [.ref sp,.int s,.ref H.length,.undef] (H++[.list ((CL c).map λj:Nat=>AV.int j)])=.ok (.bool (!((CL c).map λj:Nat=>AV.int j).isEmpty)) (H++[.list ((CL c).map λj:Nat=>AV.int j)]++[.list []]):=aw (Xv rfl rfl) (bB aj (by decide)) (ajV (aH aC) aC)
  have fin:∀r,(cU true T (s-2)=r)->iX T s=(if r=true then("range":Str) else("cut":Str)):=λr e=>by unfold iX;rw[CJ hs,e]
  cases c with
  |zero=>
   have d0:cU true T (s-2)=false:=by
    cases e:cU true T (s-2) with
    |false=>rfl
    |true=>obtain⟨x,q,_⟩:=h3.mp e;exact CI q (CS _)
   exact fQ (db (eV e2)) (dF Xs ⟨CH AV.str (fin _ d0).symm,f2⟩)
  |succ c=>
   obtain⟨x,hx⟩:∃x,(ck 2 T)[c]?=some x:=⟨_,List.getElem?_eq_getElem (by rw[oW];exact hc)⟩;have hv:(c6 (ck 2 T))[c]?=some (oV x.1 x.2):=by unfold c6;rw[C8,hx];rfl
   have e3:=λ(H':AH)(g:H'[H.length]?=some (.list ((CL (c+1)).map λj:Nat=>AV.int j)))=>aR (Γ:=af n) (m:=4) (ρ:= [.ref sp,.int s,.ref H.length,.undef]) (H:=H') (a:=.var 2) (i:=.neg (.s7 1)) (Xv rfl rfl) (py Xi) (aiB g)
   generalize xW:H++[AO.list ((CL (c+1)).map λj:Nat=>AV.int j)]++[AO.list []]=H2 at e2 f2
   have g2:H2[H.length]?=some (.list ((CL (c+1)).map λj:Nat=>AV.int j)):=by rw[<-xW];exact aH aC
   have gs:H2[sp]?=some (.list (c6 (ck 2 T))):=by rw[<-xW];exact aH (aH yu)
   have e4:ev (af n) (.cmp (.bin .mod (.idx (.var 2) (.neg (.s7 1))) (.s7 2)) .eq (.s7 0)) 4 [.ref sp,.int s,.ref H.length,.undef] H2=.ok (.bool (c%2==0)) H2:=aw (am (e3 H2 g2) Xi ajF) Xi (iG (rC (b:=0)));have e5:ev (af n) (.cmp (.idx (.idx (.var 0) (.idx (.var 2) (.neg (.s7 1)))) (.s7 1)) .gt (.var 1)) 4 [.ref sp,.int s,.ref H.length,.undef] H2=.ok (.bool (decide (s<x.2))) H2:=aw (aR (aR (Xv rfl rfl) (e3 H2 g2) (ci gs hv)) Xi (z:=.int x.2) rfl) (Xv rfl rfl) (eW (HA.mpr C2));rw[show(!((CL (c+1)).map λj:Nat=>AV.int j).isEmpty)=true by rw[List.isEmpty_map];cases h:CL (c+1) with
    |nil=>exact CI (CH DI h) (by rw[DC];exact Nat.succ_ne_zero _)
    |cons _ _=>rfl] at e2
   have dd:cU true T (s-2)=((c%2==0)&&decide (s<x.2)):=by
    rw[HH,h3,Bool.and_eq_true,C9,C3];rw[GC];constructor
    ·intro y0;obtain⟨y,_,q1,q2,q3⟩:=y0;rw[hx] at q1;cases q1;exact⟨q2,q3⟩
    ·rintro⟨q1,q2⟩;exact(cY x (FI _) hx q1 q2)
   cases q1:c%2==0 with
   |false=>rw[q1] at e4 dd;exact fQ (db (bV e2 (eV e4))) (dF Xs ⟨CH AV.str (fin _ dd).symm,f2⟩)
   |true=>
    rw[q1] at e4 dd
    cases q2:decide (s<x.2) with
    |false=>rw[q2] at e5 dd;exact fQ (db (bV e2 (bV e4 (eV e5)))) (dF Xs ⟨CH AV.str (fin _ dd).symm,f2⟩)
    |true=>rw[q2] at e5 dd;exact fj (db (bV e2 (bV e4 (bV e5 gC)))) (λZ=>dF Xs ⟨CH AV.str (fin _ dd).symm,f2⟩) nofun)
 obtain⟨v,H',e,rfl,h⟩:=w0.ok;exact(ae H' e h)
end
noncomputable def dg(x:Bs×Bs):List Bs:=if x.1==aQ then [x.1] else [x.1,x.2]
noncomputable def aY(x:Bs×Bs):AV:=.tup [.bytes x.1,.bytes x.2]
noncomputable def jK:List Bs:= [[32],[9],[10],[11],[12],[13],[35]]
theorem ahE{w:Bs}:ak (T++[(g,w)]) []=ak T []++g++w:=by
 have:∀T:List (Bs×Bs),ak (T++[(g,w)]) []=ak T (g++(w++[])):=by
  intro T
  induction T with
  |nil=>rfl
  |cons t T ih=>obtain⟨a,b⟩:=t;show a++(b++ak (T++[(g,w)]) [])=_;rw[ih];rfl
 rw[this,iL,Dk,List.append_assoc]
theorem ajb{w:Bs}:ba (T++[(g,w)])=ba T+(g.length+w.length):=by
 induction T with
 |nil=>exact En _ _
 |cons t T ih=>obtain⟨a,b⟩:=t;show a.length+b.length+ba (T++[(g,w)])=a.length+b.length+ba T+_;rw[ih];exact anI
theorem apG{w:Bs}:∀{i:Nat},ck i (T++[(g,w)])=ck i T++[(i+ba T+g.length,i+ba T+g.length+w.length)]:=by
 induction T with
 |nil=>intro i;rfl
 |cons t T ih=>intro i;obtain⟨a,b⟩:=t;show(_,_)::ck (i+a.length+b.length) (T++[(g,w)])=(_,_)::ck _ T++_;rw[ih,show i+a.length+b.length+ba T=i+ba ((a,b)::T) by show _=i+(a.length+b.length+ba T);exact anJ];rfl
structure wV(b m sp ol:Nat)(items:List AV)(H Hc:AH)(T:List (Bs×Bs)):Prop where
 fr:Fr b m H Hc
 bk:Bk b Hc
 vQ:Hc[sp]?=some (.list (c6 (ck 2 T)))
 src:Hc[ol]?=some (.list items)
 wE:∀t∈T,wO t.1
 short:ba T<=36*T.length
section
variable {m ol:Nat}{items:List AV}{Hc:AH}
theorem aqj{n v:Bs}:((.bytes n:: .bytes v::[]:List AV)).take (if n==aQ then 1 else 2)=(dg (n,v)).map .bytes:=by
 unfold dg;show _=(if n==aQ then [n] else [n,v]).map AV.bytes
 cases n==aQ<;>rfl
theorem aed{l:Nat}(h:H[l]?=some (.list xs))(hu:u<1000000000):dA H (.ref l) [] [.int u] []=.ok (.ref H.length) (H++[.list (xs.take u)]):=by
 have g:∀u:Int,cg u->dA H (.ref l) [] [.int u] []=.ok (.ref H.length) (H++[.list (xs.take u.toNat)]):=λu q=>by show aJ R.bad (az H l) _=_;rw[bq h];exact CG q
 exact g u (iK hu)
theorem apD{l:Nat}(h:H[l]?=some (.list xs))(hu:u<1000000000):dA H (.ref l) [.int u] [] []=.ok (.ref H.length) (H++[.list (xs.drop u)]):=by
 have g:∀u:Int,cg u->dA H (.ref l) [.int u] [] []=.ok (.ref H.length) (H++[.list (xs.drop u.toNat)]):=λu q=>by show aJ R.bad (az H l) _=_;rw[bq h];exact CG q
 exact g u (iK hu)
theorem apT{v:Bs}{a0 a6:AV}:ev (af n) (.slice (.list (.cons (.var 4) (.cons (.var 5) .nil))) .nil (.cons (.bin .add (.s7 1) (.bi .int (.cons (.cmp (.var 4) .ne (.s9 [69,78,68,72,68,82])) .nil))) .nil) .nil) 4 [a0,a1,a2,a3,.bytes nm,.bytes v,a6,a7] H=
  .ok (.ref (H.length+1)) (H++[.list [.bytes nm,.bytes v]]++[.list ((dg (nm,v)).map .bytes)]):=by
 have e:∀H':AH,ev (af n) (.bin .add (.s7 1) (.bi .int (.cons (.cmp (.var 4) .ne (.s9 [69,78,68,72,68,82])) .nil))) 4 [a0,a1,a2,a3,.bytes nm,.bytes v,a6,a7] H'=.ok (.int ((if nm==aQ then 1 else 2:Nat))) H':=λH'=>by
  cases h:nm==aQ with
  |true=>exact am Xi (aM rfl (Xo (aw (Xv rfl rfl) Xy (jm (r:=false) h))) rfl) rfl
  |false=>exact am Xi (aM rfl (Xo (aw (Xv rfl rfl) Xy (jm (r:=true) h))) rfl) rfl
 have s:=aed (H:=H++[AO.list [.bytes nm,.bytes v]]) (u:=if nm==aQ then 1 else 2) aC (by split<;>decide)
 rw[aqj,List.length_append] at s;exact fT (bB (ad (Xv rfl rfl) (ad (Xv rfl rfl) aj)) (show 2<=al by decide)) aj (Xo (e _)) aj s
theorem cM(h:H[p]?=some (.list xs)):aS H (.ref p) j=some xs[j]? :=by
 show(match az H p with |some xs=>some xs[j]? |none=>none)=_
 rw[bq h]
theorem eZ(h:H[p]?=some (.list xs)):cJ H (.ref p)=xs.length:=by show((az H p).getD []).length=_;rw[bq h];rfl
theorem ad2(g:wV b m sp ol items H Hc T):(aq++ak T []).length=2+ba T:=by rw[List.length_append,im];rfl
theorem apn{sl:Nat}{ys:List AV}{w:Bs}(g:wV b m sp ol items H Hc T)(yu:m<=sp)(bm:b<m)(Cb:sp≠ol)(ol2:b≠ol)(zc:Hc[sl]?=some (.list ys))(sl1:sp≠sl)(sl2:b≠sl)(hw:w.length<=20)(hT:T.length<=1000):
  ∃g1 Hd,W (CE (af (n+2)) (.cons (.assign (.var 7) (.call 21 (.cons (.var 0) .nil))) (.cons (.expr (.tN .append (.var 3) (.cons (.tup (.cons (.bin .add (.bi .len (.cons (.var 2) .nil)) (.bi .len (.cons (.var 7) .nil))) (.cons (.bin .add (.bin .add (.bi .len (.cons (.var 2) .nil)) (.bi .len (.cons (.var 7) .nil))) (.bi .len (.cons (.var 6) .nil))) .nil))) .nil))) (.cons (.assign (.var 2) (.bin .add (.bin .add (.var 2) (.var 7)) (.var 6))) .nil))) [.ref b,a1,.bytes (aq++ak T []),.ref sp,a4,a5,.bytes w,a7] Hc)
   (λfl H'=>fl=.next [.ref b,a1,.bytes (aq++ak (T++[(g1,w)]) []),.ref sp,a4,a5,.bytes w,.bytes g1]/\H'=Hd) bC/\wV b m sp ol items H Hd (T++[(g1,w)])/\Hd[sl]?=some (.list ys):=by
 obtain⟨g1,H1,gg,gl,e1,f1,b1⟩:=ahW (n:=n) g.bk;have s1:H1[sp]?=some (.list (c6 (ck 2 T))):=f1.get (CW (Nat.lt_of_lt_of_le bm yu)) g.vQ;have lg:=ad2 g;have sh:=g.short;have hll:(c6 (ck 2 T)).length<al:=by unfold c6 al;rw[List.length_map,oW];exact Nat.lt_of_le_of_lt hT (by decide)
 refine(ax g1 (H1.set sp (.list (c6 (ck 2 (T++[(g1,w)]))))) ?_ ⟨?_,b1.put (CW (Nat.lt_of_lt_of_le bm yu)),iY (cD s1),?_,?_,?_⟩ ?_)
 ·have ap:=iE (v:=.tup [.int (((aq++ak T []).length:Int)+g1.length),.int (((aq++ak T []).length:Int)+g1.length+w.length)]) s1 hll;have es:c6 (ck 2 T)++[.tup [.int (((aq++ak T []).length:Int)+g1.length),.int (((aq++ak T []).length:Int)+g1.length+w.length)]]=c6 (ck 2 (T++[(g1,w)])):=by
   rw[apG,lg];unfold c6 oV;rw[Dr];rfl
  rw[es] at ap;refine aG (aD (aK (Xo (Xv rfl rfl)) e1)) (aG (eU (cS rfl (Xv rfl rfl) (iD s1) (Xo (cq (ad (am (aM rfl (Xo (Xv rfl rfl)) EH) (aM rfl (Xo (Xv rfl rfl)) EH) rfl) (Xo (am (am (aM rfl (Xo (Xv rfl rfl)) EH) (aM rfl (Xo (Xv rfl rfl)) EH) rfl) (aM rfl (Xo (Xv rfl rfl)) EH) rfl))))) ap) rfl)
   (aG (aD (am (am (Xv rfl rfl) (Xv rfl rfl) (eB (lg▸Nat.lt_of_le_of_lt (C7 (CY (Nat.le_trans sh (DW 36 hT)) 2) gl) (by decide)))) (Xv rfl rfl) (eB (by rw[List.length_append];exact lg▸Nat.lt_of_le_of_lt (C7 (C7 (CY (Nat.le_trans sh (DW 36 hT)) 2) gl) hw) (by decide))))) (bA ⟨?_,rfl⟩)))
  rw[ahE,<-List.append_assoc,<-List.append_assoc];rfl
 ·have hm:m<=Hc.length:=CN (Nat.lt_of_le_of_lt yu (cD g.vQ));exact(g.fr.trans (f1.less hm)).trans (.put (.inr yu))
 ·exact(DH Cb).trans (f1.get ol2.symm g.src)
 ·intro t ht;rcases DJ.mp ht with ht |ht
  ·exact g.wE t ht
  ·obtain rfl:=DD.mp ht;exact gg
 ·rw[ajb,List.length_append];show _<=36*(T.length+1);exact anK hw gl sh
 ·exact(DH sl1).trans (f1.get sl2.symm zc)
end
section
variable {m ol:Nat}{items:List AV}{Hc:AH}
theorem wV.app(g:wV b m sp ol items H Hc T)(hm:m<=Hc.length):wV b m sp ol items H (Hc++l) T:=⟨g.fr.trans (.app hm),g.bk.app,aH g.vQ,aH g.src,g.wE,g.short⟩
theorem aej{x:Bs×Bs}:(dg x).length<=2:=by unfold dg;split<;>simp
theorem apP{x:Bs×Bs}{w:Bs}(h:w∈dg x):w=x.1\/w=x.2:=by
 unfold dg at h
 split at h<;>simp at h
 ·exact .inl h
 ·exact h
theorem qT:∀{l:List (Bs×Bs)},(l.flatMap dg).length<=2*l.length:=by
 intro zi
 induction zi with
 |nil=>
 exact Nat.le_refl _
 |cons x l ih=>
 exact by
  rw[KW,List.length_append,Dc];have:=ih;have:=aej (x:=x);exact anL (by assumption) this
theorem aqP:∀{ws:List (Bs×Bs)},(∀x∈ws,(x.1==aQ)=false)->(ws++[(aQ,[])]).flatMap dg=jN ws:=by
 intro zi
 induction zi with
 |nil=>
 exact @λZ=>rfl
 |cons zp ws ih=>
 obtain⟨a,v⟩:=zp;exact @λh=>by rw[GX,KW,ih λx hx=>h x (Dm _ hx)];unfold dg;rw[show((a,v).1==aQ)=false from h _ (Ds ..)];rfl
theorem jS{r:Nat}{ys:List AV}(h:H[q]?=some (.list xs))(h2:H[r]?=some (.list ys))(hl:xs.length+ys.length<10000000):dc .add (.ref q) (.ref r) H=.ok (.ref H.length) (H++[.list (xs++ys)]):=by show aJ R.bad (az H q) (λxs=>aJ R.bad (az H r) λys=>cn (xs++ys) H)=_;rw[bq h,bq h2];exact CG (by rw[List.length_append];unfold al;exact Nat.le_trans (CN hl) (by decide))
theorem aps{c:Bs}(h:c∈jK):∃k,c=[k]/\eQ k:=by unfold jK at h;simp only[CR,DE,DG] at h;rcases h with rfl |rfl |rfl |rfl |rfl |rfl |rfl<;>exact(ae _ rfl (by unfold eQ;decide))
structure vR(b:Nat)(H H':AH)(ws T:List (Bs×Bs))(c:UInt8)(sp:Nat):Prop where
 words:T.map (·.2)=jN ws
 wE:∀t∈T,wO t.1
 stop:eQ c
 short:ba T<=36*T.length
 vQ:H'[sp]?=some (.list (c6 (ck 2 T)))
 le:H.length<=sp
 fr:Fr b H.length H H'
 bk:Bk b H'
theorem qZ(hb:Bk b H)(hp:H[p]?=some (.list (ws.map aY)))(bp:b≠p)(hn:∀x∈ws,(x.1==aQ)=false)(hw:∀x∈ws,x.1.length<=20/\x.2.length<=20)(hl:ws.length<=10):
  ∃T c sp H',run (n+3) 24 [.ref b,.ref p] H=.ok (.tup [.bytes (aq++ak T []++[c]),.ref sp]) H'/\vR b H H' ws T c sp:=by
 have bl:=hb.lt;have pl:=cD hp;have w0:=dG (n:=n+2) (k:=24) (np:=2) (nv:=8) (bd:=pW) (vs:= [.ref b,.ref p]) (H:=H) (Q:=λv H'=>∃T c sp,v=.tup [.bytes (aq++ak T []++[c]),.ref sp]/\vR b H H' ws T c sp) (E:=bC) rfl rfl (by
  show W (CE (af (n+2)) pW [.ref b,.ref p,.undef,.undef,.undef,.undef,.undef,.undef] H) _ _;have e1:ev (af (n+2)) (.bin .add (.var 1) (.list (.cons (.tup (.cons (.s9 [69,78,68,72,68,82]) (.cons (.s9 []) .nil))) .nil))) 4 [.ref b,.ref p,.bytes aq,.ref H.length,.undef,.undef,.undef,.undef] (H++[.list []])=.ok (.ref (H.length+2)) (H++[.list []]++[.list [aY (aQ,[])]]++[.list ((ws++[(aQ,[])]).map aY)]):=by have:=jS (H:=H++[AO.list []]++[AO.list [aY (aQ,[])]]) (q:=p) (r:=(H++[AO.list []]).length) (xs:=ws.map aY) (aH (aH hp)) aC (by rw[List.length_map];show _+1<_;exact Nat.lt_of_le_of_lt (EE hl) (by decide));rw[show ws.map aY++[aY (aQ,[])]=(ws++[(aQ,[])]).map aY by rw[Dr];rfl,show(H++[AO.list []]++[AO.list [aY (aQ,[])]]).length=H.length+2 by rw[List.length_append,List.length_append];rfl] at this;exact am (Xv rfl rfl) (bB (ad (cq (ad Xy (ad Xy aj))) aj) (by decide)) this
  have lw:(ws++[(aQ,([]:Bs))]).length=ws.length+1:=by rw[List.length_append];rfl
  have Au:∀x∈ws++[(aQ,([]:Bs))],x.1.length<=20/\x.2.length<=20:=λx hx=>by
   rcases DJ.mp hx with hx |hx
   ·exact hw x hx
   ·obtain rfl:=DD.mp hx;decide
  have we:=aqP hn;have og:(H++[AO.list []]++[AO.list [aY (aQ,[])]]++[AO.list ((ws++[(aQ,[])]).map aY)])[H.length+2]?=some (.list ((ws++[(aQ,[])]).map aY)):=by have:=aC (H:=H++[AO.list []]++[AO.list [aY (aQ,[])]]) (o:=AO.list ((ws++[(aQ,[])]).map aY));rw[List.length_append,List.length_append] at this;exact this
  (revert e1 lw Au we og;refine gn (ws++[(aQ,([]:Bs))]) λwl e1 lw Au we og=>?_);refine aG (dE rfl (cq (ad Xy (ad (bB aj (by decide)) aj))) rfl) (dj rfl e1 (λj ρ Hc=>∃T a4 a5 a6 a7,ρ=[.ref b,.ref p,.bytes (aq++ak T []),.ref H.length,a4,a5,a6,a7]/\wV b H.length H.length (H.length+2) (wl.map aY) H Hc T/\T.map (·.2)=(wl.take j).flatMap dg) wl.length ?_ ?_ (λj ρ Hc Gq Nq hj i uF kq=>?_) (λρ Hc i=>?_) λρ Hc i=>?_)
  ·rw[eZ og,List.length_map];exact Nat.le_refl _
  ·refine(iQ [] _ _ _ _ rfl (bE ⟨?_,hb.app.app.app,aH (aH aC),og,λt ht=>(by cases ht),DY _⟩ (by rw[Ef];rfl)));rw[List.append_assoc,List.append_assoc];exact .app (Nat.le_refl _)
  ·(revert i;refine r_eeeeea λT a4 a5 a6 a7 zq5=>r_a λsd tw=>?_;subst zq5);have zY:=cD sd.vQ;obtain⟨x,hx⟩:∃x,wl[j]?=some x:=⟨_,List.getElem?_eq_getElem hj⟩;have xm:=Au x (DT hx);obtain⟨nm,v⟩:=x;have tn:T.length<=2*j:=by
    have:=CH DI tw;rw[List.length_map] at this;have q:=qT (l:=wl.take j);rw[Dg] at q;exact this▸Nat.le_trans q (DW 2 (F9 ..))
   refine(kq (aY (nm,v)) _ ((cM sd.src).trans (by rw[C8,hx];rfl)) rfl (dj rfl apT (λi ρ Hd=>∃T' a6 a7,ρ=[.ref b,.ref p,.bytes (aq++ak T' []),.ref H.length,.bytes nm,.bytes v,a6,a7]/\wV b H.length H.length (H.length+2) (wl.map aY) H Hd T'/\T'.map (·.2)=(wl.take j).flatMap dg++(dg (nm,v)).take i/\Hd[Hc.length+1]?=some (.list ((dg (nm,v)).map .bytes))) (dg (nm,v)).length ?_ ?_ (λi ρ Hd Gq Nq hi iv uF kq=>?_) (λρ Hd iv=>?_) λρ Hd iv=>?_))
   ·rw[eZ (xs:=(dg (nm,v)).map .bytes),List.length_map]
    ·exact Nat.le_refl _
    ·have:=aC (H:=Hc++[AO.list [.bytes nm,.bytes v]]) (o:=AO.list ((dg (nm,v)).map .bytes));rw[List.length_append] at this;exact this
   ·refine(ce T _ _ rfl ((sd.app (CN zY)).app (by rw[List.length_append];exact Nat.le_trans (CN zY) (Nat.le_add_right ..))) (by rw[Ef,Dk];exact tw) ?_);have:=aC (H:=Hc++[AO.list [.bytes nm,.bytes v]]) (o:=AO.list ((dg (nm,v)).map .bytes));rw[List.length_append] at this;exact this
   ·obtain⟨T',a6,a7,rfl,A9,zJ,zc⟩:=iv;obtain⟨w,Av⟩:∃w,(dg (nm,v))[i]?=some w:=⟨_,List.getElem?_eq_getElem hi⟩;have atW:w.length<=20:=by
     clear hx hi uF zJ zc kq;rcases apP (DT Av) with rfl |rfl
     ·exact xm.1
     ·exact xm.2
    have tn':T'.length<=1000:=by have:=CH DI zJ;rw[List.length_map,List.length_append,Dg] at this;have q:=qT (l:=wl.take j);rw[Dg] at q;have:=aej (x:=(nm,v));exact anM hl lw hj hi (by assumption) q this
    have Bi:b<Hc.length:=sd.bk.lt;obtain⟨g1,He,ws1,sd2,atD⟩:=apn (n:=n) (a1:=.ref p) (a4:=.bytes nm) (a5:=.bytes v) (a7:=a7) A9 (Nat.le_refl _) bl anN (anO bl) zc (ac4 zY) (ac4 Bi) atW tn';refine(kq (.bytes w) _ ((cM zc).trans (by rw[C8,Av];rfl)) rfl (ws1.mono (λfl H' q=>?_) λZ Z h=>h));clear ws1;obtain⟨rfl,rfl⟩:=q;refine(uF _ _ (gc (T'++[(g1,w)]) _ _ rfl (bT sd2 ?_ atD)));rw[Dr,zJ,List.append_assoc,EW,Av];rfl
   ·obtain⟨T',a6,a7,rfl,A9,zJ,zc⟩:=iv;rw[cM zc,Dq (by rw[List.length_map];exact Nat.le_refl _)]
   ·obtain⟨T',a6,a7,rfl,A9,zJ,zc⟩:=iv;rw[Fz] at zJ;refine bA (uF _ _ (iP T' _ _ _ (aI _ rfl A9 ?_)));rw[zJ,EW,hx,KV,Option.toList_some,List.flatMap_singleton]
  ·(revert i;refine r_eeeeea λT a4 a5 a6 a7 zq5=>r_a λsd tw=>?_;subst zq5);rw[cM sd.src,Dq (by rw[List.length_map];exact Nat.le_refl _)]
  ·(revert i;refine r_eeeeea λT a4 a5 a6 a7 zq5=>r_a λsd tw=>?_;subst zq5);rw[Fz,we] at tw;have Bi:b<Hc.length:=sd.bk.lt;have zY:=cD sd.vQ;obtain⟨d,H1,hd,e2,f1,b1⟩:=dp (n:=n+1) (sd.bk.app (l:= [.list (jK.map .bytes)])) (top:=7) (by decide) (by decide);have g1:H1[Hc.length]?=some (.list (jK.map .bytes)):=f1.get (Dn (CP Bi)) aC;have i1:(jK.map AV.bytes)[d]?=some (.bytes (jK[d]'hd)):=by rw[C8,List.getElem?_eq_getElem hd];rfl
   obtain⟨k,hk,ks⟩:=aps (FX (l:=jK) hd);rw[hk] at i1;have ll:T.length<=2*(ws.length+1):=by have:=CH DI tw;rw[List.length_map,<-we] at this;have:=qT (l:=wl);exact akl lw (by assumption) this
   have sh:=sd.short;have ln:=ad2 sd;refine dF (cq (ad (am (Xv rfl rfl) (aR (bB (ad Xy (ad Xy (ad Xy (ad Xy (ad Xy (ad Xy (ad Xy aj))))))) (by decide)) (aK (ad (Xv rfl rfl) (ad Xi aj)) e2) (ci g1 i1)) (eB (by rw[ln];show _+1<_;exact Nat.lt_of_le_of_lt (Eg (CY (Nat.le_trans sh (DW 36 (Nat.le_trans ll (DW 2 (EE hl))))) 2) 1) (by decide)))) (ad (Xv rfl rfl) aj))) (gc T k _ rfl ⟨tw,sd.wE,ks,sd.short,f1.get (Dn (CP bl)) (aH sd.vQ),Nat.le_refl _,?_,b1⟩);exact(sd.fr.trans (.app (CN zY))).trans (f1.less (by rw[List.length_append];exact Nat.le_trans (CN zY) (Nat.le_add_right ..))))
 (refine o_eeaeee w0.ok λv H' e T c sp=>r_a λzq6 h=>?_;subst zq6);exact(nH T c sp H' e h)
end
def bf(i:Int):Bs:=(eR i).cps.toList.map CT
def aer(i:Int):Bool:=(eR i).cps.toList.all (λc=>decide (c<128))&&decide ((eR i).cps.size<=al)&&bS (bf i)&&iS (bf i)&&decide ((bf i).length<=9)&&decide (dec (bf i)=i)
noncomputable def kP:List Int:= [1,2,3,4]++(CL 17).map λp=>2^p-1
theorem ap4:kP.all aer=true:=by decide+kernel
structure tM(i:Int):Prop where
 low:(eR i).cps.toList.all (λc=>decide (c<128))=true
 size:(eR i).cps.size<=al
 word:bS (bf i)=true
 dig:iS (bf i)=true
 len:(bf i).length<=9
 dec:dec (bf i)=i
theorem tM.of{i:Int}(h:i∈kP):tM i:=by have:=CV.mp ap4 i h;unfold aer at this;simp only[Bool.and_eq_true,C3] at this;exact⟨this.1.1.1.1.1,this.1.1.1.1.2,this.1.1.1.2,this.1.1.2,this.1.2,this.2⟩
theorem dB(h:1<=k/\k<=4):(k:Int)∈kP:=by
 unfold kP;refine Gy _ ?_;rcases k with _ |_ |_ |_ |_ |k
 ·exact(akm h).elim
 all_goals first |exact(akn h).elim |decide
theorem kR(h:p<=16):(2^p-1:Int)∈kP:=by unfold kP;exact Ji _ (Dt.mpr (ae p (Fj.mpr (Eo h)) rfl))
structure Good(ws:List (Bs×Bs))(w h d p:Nat):Prop where
 pw:(ws.map (·.1)).Pairwise (·≠·)
 len:ws.length<=5
 y7:∀x∈ws,dr x.1=true/\bS x.2=true/\x.2.length<=9
 mw:(aW,bf w)∈ws
 mh:(aV,bf h)∈ws
 md:(aZ,bf d)∈ws
 mm:(aU,bf (2^p-1))∈ws
 kk:∀v,(bX,v)∈ws->v=dU d
theorem acT:∀{ws es:List (Bs×Bs)},(ws.map (·.1)).Pairwise (·≠·)->(∀x∈ws,dr x.1=true/\bS x.2=true)->(∀x∈ws,c7 es x.1=false)->es.length+ws.length<=900->gQ ws es:=by
 intro zi
 induction zi with
 |nil=>
 exact @λZ Z Z Z Z=>trivial
 |cons zp ws ih=>
 obtain⟨n,v⟩:=zp;exact @λes h f u l=>by rw[DS,List.pairwise_cons] at h;rw[Dc] at l;have hx:=f _ (Ds ..);refine(gM hx.1 (u _ (Ds ..)) (Lw l) hx.2 (ih h.2 (λx hx=>f x (Dm _ hx)) (λx hx=>?_) (by rw[List.length_append];show es.length+1+_<=_;exact ako l)));rw[sT,u x (Dm _ hx),Gl];exact EG (h.1 x.1 (Dt.mpr (ae x hx rfl)))
section
theorem Good.names(g:Good ws w h d p):gQ ws []:=acT g.pw (λx hx=>⟨(g.y7 x hx).1,(g.y7 x hx).2.1⟩) (λZ Z=>rfl) (by have:=g.len;show 0+_<=_;exact ac5 this)
theorem qR{n:Bs}(h:dr n=true):n.length<=8:=by
 have a:([aW,aV,aZ,aU,bX,aQ].all λn=>decide (n.length<=8))=true:=by decide
 exact Do (CV.mp a n (qS (.inl h)))
structure uD(w h d p:Nat):Prop where
 ww:1<=w/\w<=3
 hh:1<=h/\h<=3
 dd:xe d
 pp:2<=p/\p<=16
theorem xe.le(h:xe d):1<=d/\d<=4:=by rcases h with rfl |rfl |rfl<;>decide
theorem aeI{v0 v1 v2 v3:Bs}(hn:gQ es [])(h0:(aW,v0)∈es)(h1:(aV,v1)∈es)(h2:(aZ,v2)∈es)(h3:(aU,v3)∈es)
  (g:∀v∈[v0,v1,v2,v3],iS v=true/\v.length<=9):Told es [dec v0,dec v1,dec v2,dec v3]:=by
 refine⟨λj hj=>?_,rfl⟩;rcases j with _ |_ |_ |_ |j
 ·exact(dS _ v0 rfl (nR hn h0) ((g v0 (by simp)).1) ((g v0 (by simp)).2) rfl)
 ·exact(dS _ v1 rfl (nR hn h1) ((g v1 (by simp)).1) ((g v1 (by simp)).2) rfl)
 ·exact(dS _ v2 rfl (nR hn h2) ((g v2 (by simp)).1) ((g v2 (by simp)).2) rfl)
 ·exact(dS _ v3 rfl (nR hn h3) ((g v3 (by simp)).1) ((g v3 (by simp)).2) rfl)
 ·exact(rM hj).elim
theorem Good.right(g:Good ws w h d p)(D:uD w h d p):Right ws w h d p:=by
 have sw:=tM.of (dB ⟨D.ww.1,by have:=D.ww;exact fy this⟩);have sh:=tM.of (dB ⟨D.hh.1,by have:=D.hh;exact fy this⟩);have sd:=tM.of (dB D.dd.le);have sm:=tM.of (kR D.pp.2);have t:=aeI g.names g.mw g.mh g.md g.mm (by
  intro v hv;simp only[CR,DE,DG] at hv;rcases hv with rfl |rfl |rfl |rfl
  ·exact⟨sw.dig,sw.len⟩
  ·exact⟨sh.dig,sh.len⟩
  ·exact⟨sd.dig,sd.len⟩
  ·exact⟨sm.dig,sm.len⟩)
 rw[sw.dec,sh.dec,sd.dec,sm.dec] at t;exact⟨t,λv e=>g.kk v (acz e),D.dd,⟨D.ww.1,by have:=D.ww;exact gT this⟩,⟨D.hh.1,by have:=D.hh;exact gT this⟩,D.pp⟩
def fW(w h d p:Nat):List (Bs×Bs):= [(aW,bf w),(aV,bf h),(aZ,bf d),(aU,bf (2^p-1))]
def cB(w h d p:Nat)(t:Bool):List (Bs×Bs):=fW w h d p++(if t then [(bX,dU d)] else [])
noncomputable def fB{α:Type}(l:List α)(t:Nat):List α:=l.drop t++l.take t
theorem kp{l:List α}{t:Nat}{x:α}:x∈fB l t↔x∈l:=by unfold fB;rw[DJ,Or.comm,<-DJ,Li]
theorem aoC:((CL 5).all λt=>decide ((fB [aW,aV,aZ,aU] t).Pairwise (·≠·))&&decide ((fB [aW,aV,aZ,aU,bX] t).Pairwise (·≠·)))=true:=by decide
theorem rj(h:xe d):bS (dU d)=true/\(dU d).length<=9:=by rcases h with rfl |rfl |rfl<;>decide
theorem adS{t:Bool}(D:uD w h d p)(hk:k<5):Good (fB (cB w h d p t) k) w h d p:=by
 have sw:=tM.of (dB ⟨D.ww.1,by have:=D.ww;exact fy this⟩);have sh:=tM.of (dB ⟨D.hh.1,by have:=D.hh;exact fy this⟩);have sd:=tM.of (dB D.dd.le);have sm:=tM.of (kR D.pp.2);have kd:=rj D.dd;have rp:=CV.mp aoC k (Fj.mpr hk);rw[Bool.and_eq_true,C3,C3] at rp;have hm:(fB (cB w h d p t) k).map (·.1)=fB ((cB w h d p t).map (·.1)) k:=by unfold fB;rw[Dr,K7,K9]
 refine⟨?_,?_,λx hx=>?_,kp.mpr (Gy _ (by unfold fW;simp)),kp.mpr (Gy _ (by unfold fW;simp)),kp.mpr (Gy _ (by unfold fW;simp)),kp.mpr (Gy _ (by unfold fW;simp)),λv hv=>?_⟩
 ·rw[hm]
  cases t with
  |false=>exact rp.1
  |true=>exact rp.2
 ·unfold fB;rw[List.length_append,Dd,Dg];have:(cB w h d p t).length<=5:=by clear hm;cases t<;>simp[cB,fW]
  exact akq this
 ·have hx:=kp.mp hx;unfold cB fW at hx;clear hm;cases t<;>simp at hx
  ·rcases hx with rfl |rfl |rfl |rfl
   ·exact⟨rfl,sw.word,sw.len⟩
   ·exact⟨rfl,sh.word,sh.len⟩
   ·exact⟨rfl,sd.word,sd.len⟩
   ·exact⟨rfl,sm.word,sm.len⟩
  ·rcases hx with rfl |rfl |rfl |rfl |rfl
   ·exact⟨rfl,sw.word,sw.len⟩
   ·exact⟨rfl,sh.word,sh.len⟩
   ·exact⟨rfl,sd.word,sd.len⟩
   ·exact⟨rfl,sm.word,sm.len⟩
   ·exact⟨rfl,kd⟩
 ·have hx:=kp.mp hv;have n:¬(bX=aW)/\¬(bX=aV)/\¬(bX=aZ)/\¬(bX=aU):=by decide
  unfold cB fW at hx;clear hm hv;cases t<;>simp[n] at hx
  exact hx
end
def acp:List Bs:= [pR,[],pT,pP]
theorem ai1(h:xe d):∃k:Nat,(d:Int)-1=k/\(acp.map AV.bytes)[k]?=some (.bytes (dU d)):=by
 rcases h with rfl |rfl |rfl
 ·exact(ae 0 rfl rfl)
 ·exact(ae 2 rfl rfl)
 ·exact(ae 3 rfl rfl)
def gu(w h d p:Nat):List AV:= [.tup [.bytes aW,.int w],.tup [.bytes aV,.int h],.tup [.bytes aZ,.int d],.tup [.bytes aU,.int (2^p-1)]]
def sX(v:AV):AV:=iu .none v λl=>match l with
 |[a,b]=>bI .none a λn=>aF .none b λi=>aY (n,bf i)
 |_=>.none
section
theorem ap5{i:Int}(s:tM i)(hi:i.natAbs<10^18)(hj:ρ[j]?=some (.int i)):ev (af n) (.tN .encode (.bi .str (.cons (.var j) .nil)) (.cons (.tH "ascii") .nil)) k ρ H=.ok (.bytes (bf i)) H:=by
 have e1:cT H .str [.int i]=.ok (.str (eR i)) H:=by show au R.bad (i.natAbs<10^18) (R.ok (AV.str (eR i)) H)=_;unfold au;exact CG hi
 have e2:∀(t:Str)(c:Bool),c=true->au R.bad (c=true) (R.ok (AV.bytes (t.cps.toList.map CT)) H)=R.ok (AV.bytes (t.cps.toList.map CT)) H:=λt c q=>CG q
 have e3:dW H .encode (.str (eR i)) [.str "ascii"]=.ok (.bytes (bf i)) H:=e2 (eR i) _ (by
  rw(occs:=.all) [Bool.and_eq_true,Bool.and_eq_true,C3];exact⟨⟨Du _,s.low⟩,s.size⟩)
 exact cS rfl (aM rfl (Xo (Xv hj rfl)) e1) rfl (Xo Xs) e3
theorem acL(h:p<=16):((2:Int)^p-1).natAbs<10^18:=by have h1:2^p<=2^16:=Ga (by decide) h;have c:((2^p:Nat):Int)=(2:Int)^p:=Fw 2 p;have h0:0<2^p:=Hl (by decide);have e:((2^p:Nat):Int)-1=((2^p-1:Nat):Int):=(Gu h0).symm;rw[<-c,e];exact Nat.lt_of_le_of_lt (Nat.le_trans (DK _ _) h1) (by decide)
theorem aqQ(g:tL lo H ua m p (bJ f w h d))(hb:Bk b H)(bl:b<lo)(D:uD w h d p):
  ∃ws r H',run (n+2) 23 [.ref b,ua] H=.ok (.ref r) H'/\Good ws w h d p/\H'[r]?=some (.list (ws.map aY))/\H.length<=r/\Fr b H.length H H'/\Bk b H':=by
 obtain⟨q,rfl,gq⟩:=g;obtain⟨pl,g⟩:=gq.seen;have dd:=D.dd.le;obtain⟨r0,e0⟩:=mo g (ac6 dd);have ld:=gf g.list;rw[g.len] at ld;have sw:=tM.of (dB (k:=w) ⟨D.ww.1,by have:=D.ww;exact fy this⟩);have sh:=tM.of (dB (k:=h) ⟨D.hh.1,by have:=D.hh;exact fy this⟩);have sd:=tM.of (dB D.dd.le);have sm:=tM.of (kR D.pp.2);have w0:=dG (n:=n+1) (k:=23) (np:=2) (nv:=9) (bd:=qd) (vs:= [.ref b,.inst 1 [.str m,.int p,.ref q]]) (H:=H) (Q:=λv H'=>∃ws r,v=.ref r/\Good ws w h d p/\H'[r]?=some (.list (ws.map aY))/\H.length<=r/\Fr b H.length H H'/\Bk b H') (E:=bC) rfl rfl (by
  show W (CE (af (n+1)) qd [.ref b,.inst 1 [.str m,.int p,.ref q],.undef,.undef,.undef,.undef,.undef,.undef,.undef] H) _ _;have tail:∀(t:Bool)(fq:Nat)(Hc:AH),H.length<=fq->Hc[fq]?=some (.list ((cB w h d p t).map aY))->Fr b H.length H Hc->Bk b Hc->∀a4:AV,W (CE (af (n+1)) (.cons (.assign (.var 6) (.call 20 (.cons (.var 0) (.cons (.bi .len (.cons (.var 5) .nil)) .nil)))) (.cons (.ret (.bin .add (.slice (.var 5) (.cons (.var 6) .nil) .nil .nil) (.slice (.var 5) .nil (.cons (.var 6) .nil) .nil))) .nil)) [.ref b,.inst 1 [.str m,.int p,.ref q],.inst 0 [.int w,.int h,.ref r0],.int d,a4,.ref fq,.undef,.undef,.undef] Hc)
    (λfl H'=>match fl with | .ret v=>∃ws r,v=.ref r/\Good ws w h d p/\H'[r]?=some (.list (ws.map aY))/\H.length<=r/\Fr b H.length H H'/\Bk b H' | .next _=>∃ws r,AV.none=.ref r/\Good ws w h d p/\H'[r]?=some (.list (ws.map aY))/\H.length<=r/\Fr b H.length H H'/\Bk b H') bC:=by
   intro t fq Hc le hq fr bk a4;have zL:(cB w h d p t).length<=5/\0<(cB w h d p t).length:=by clear hq;cases t<;>simp[cB,fW]
   have ll:=gf hq;rw[List.length_map] at ll;obtain⟨k,H1,hk,e2,f1,b1⟩:=dp (n:=n) bk (top:=(cB w h d p t).length) zL.2 (akr zL);have blt:=hb.lt;have hc:=cD hq;have AY:H1[fq]?=some (.list ((cB w h d p t).map aY)):=f1.get (CW (Nat.lt_of_lt_of_le blt le)) hq;have s1:=apD (u:=k) AY (Nat.lt_of_lt_of_le hk (Nat.le_trans zL.1 (by decide)));have s2:=aed (H:=H1++[.list (((cB w h d p t).map aY).drop k)]) (u:=k) (aH AY) (Nat.lt_of_lt_of_le hk (Nat.le_trans zL.1 (by decide)));have s3:=jS (H:=H1++[.list (((cB w h d p t).map aY).drop k)]++[.list (((cB w h d p t).map aY).take k)]) (aH aC) aC (by rw[Dd,Dg,List.length_map];exact aks zL hk);have hm:((cB w h d p t).map aY).drop k++((cB w h d p t).map aY).take k=(fB (cB w h d p t) k).map aY:=by unfold fB;rw[Dr,K7,K9]
   rw[hm] at s3;refine aG (aD (aK (ad (Xv rfl rfl) (Xo (aM rfl (Xo (Xv rfl rfl)) ll))) e2)) (dF (am (fT (Xv rfl rfl) (Xo (Xv rfl rfl)) aj aj s1) (fT (Xv rfl rfl) aj (Xo (Xv rfl rfl)) aj s2) s3) (dS _ _ rfl (adS D (Nat.lt_of_lt_of_le hk zL.1)) aC ?_ (bE ?_ b1.app.app.app)))
   ·have:=fr.le;have:=f1.le;rw[List.length_append,List.length_append];exact akt le hc this
   ·refine(fr.trans (f1.less fr.le)).trans ?_;rw[List.append_assoc,List.append_assoc];exact .app (Nat.le_trans fr.le f1.le)
  have asV:=bB (Γ:=af (n+1)) (m:=4) (ρ:= [.ref b,.inst 1 [.str m,.int p,.ref q],.inst 0 [.int w,.int h,.ref r0],.int d,.undef,.undef,.undef,.undef,.undef]) (H:=H) (H1:=H) (es:=.cons (.tup (.cons (.s9 [87,73,68,84,72]) (.cons (.attr (.var 2) 0) .nil))) (.cons (.tup (.cons (.s9 [72,69,73,71,72,84]) (.cons (.attr (.var 2) 1) .nil))) (.cons (.tup (.cons (.s9 [68,69,80,84,72]) (.cons (.var 3) .nil))) (.cons (.tup (.cons (.s9 [77,65,88,86,65,76]) (.cons (.bin .sub (.bin .pow (.s7 2) (.attr (.var 1) 4)) (.s7 1)) .nil))) .nil))))
   (ad (cq (ad Xy (Xo (ay (Xv rfl rfl) rfl)))) (ad (cq (ad Xy (Xo (ay (Xv rfl rfl) rfl)))) (ad (cq (ad Xy (Xo (Xv rfl rfl)))) (ad (cq (ad Xy (Xo (am (am Xi (ay (Xv rfl rfl) rfl) (jG (p:=p) (by have:=D.pp;exact Nat.le_trans this.2 (by decide)))) Xi rfl)))) aj)))) (show 4<=al by decide)
  have l1:(H++[AO.list (gu w h d p)]).length=H.length+1:=by rw[List.length_append];rfl
  have xE:ev (af (n+1)) (.comp (.tup (.cons (.var 7) (.cons (.tN .encode (.bi .str (.cons (.var 8) .nil)) (.cons (.tH "ascii") .nil)) .nil))) [7,8] false (.var 4) .nil .nil) 4 [.ref b,.inst 1 [.str m,.int p,.ref q],.inst 0 [.int w,.int h,.ref r0],.int d,.ref H.length,.undef,.undef,.undef,.undef] (H++[.list (gu w h d p)])
    =.ok (.ref (H++[AO.list (gu w h d p)]).length) (H++[.list (gu w h d p)]++[.list ((gu w h d p).map sX)]):=by
   refine mI rfl (Xv rfl rfl) (λj=>cM aC) (by rw[eZ aC];exact Nat.le_refl _) (λv hv=>?_) (show 4<=al by decide)
   have go:∀(nm:Bs)(i:Int),tM i->i.natAbs<10^18->∃vd,bz (H++[.list (gu w h d p)]) [7,8] false (.tup [.bytes nm,.int i]) [.ref b,.inst 1 [.str m,.int p,.ref q],.inst 0 [.int w,.int h,.ref r0],.int d,.ref H.length,.undef,.undef,.undef,.undef]=some vd/\ev (af (n+1)) (.tup (.cons (.var 7) (.cons (.tN .encode (.bi .str (.cons (.var 8) .nil)) (.cons (.tH "ascii") .nil)) .nil))) 3 vd (H++[.list (gu w h d p)])=.ok (sX (.tup [.bytes nm,.int i])) (H++[.list (gu w h d p)]):=λnm i s hi=>(ae _ rfl (cq (ad (Xv rfl rfl) (Xo (ap5 s hi rfl)))))
   have dw:=D.ww;have dh:=D.hh;unfold gu at hv;simp only[CR,DE,DG] at hv;rcases hv with e |e |e |e
   ·subst e;exact go _ _ sw (Nat.lt_of_le_of_lt dw.2 (by decide))
   ·subst e;exact go _ _ sh (Nat.lt_of_le_of_lt dh.2 (by decide))
   ·subst e;exact go _ _ sd (Nat.lt_of_le_of_lt dd.2 (by decide))
   ·subst e;exact go _ _ sm (acL D.pp.2)
  refine aG (dE rfl (cq (ad (aR (ay (Xv rfl rfl) rfl) Xi (ci (d:=0) g.list e0)) (Xo (aM rfl (Xo (ay (Xv rfl rfl) rfl)) ld)))) rfl) (aG (aD asV) (aG (aD xE) ?_));refine cX (H++[AO.list (gu w h d p)]++[AO.list ((gu w h d p).map sX)]) λH2 xW=>?_;have f2:Fr b H.length H H2:=by rw[<-xW,List.append_assoc];exact .app (Nat.le_refl _)
  have b2:Bk b H2:=by rw[<-xW];exact hb.app.app
  have q2:H2[H.length+1]?=some (.list ((fW w h d p).map aY)):=by rw[<-xW,<-l1];exact aC
  rw[l1];obtain⟨k,H3,hk,e3,f3,b3⟩:=dp (n:=n) b2 (top:=3) (by decide) (by decide);have bl2:=b2.lt;have yQ:=hb.lt;have q3:H3[H.length+1]?=some (.list ((fW w h d p).map aY)):=f3.get (CW (EC yQ)) q2;have Bq:=f2.trans (f3.less f2.le);refine fj (r:=decide (0<k)) (aw (aK (ad (Xv rfl rfl) (ad Xi aj)) e3) Xi (eW (y:=0) (HA.mpr (aku hk)))) (λZ=>?_) (λZ=>bA (tail false _ H3 (FF _) (by rw[q3];simp[cB]) Bq b3 _));obtain⟨kk,ek,ik⟩:=ai1 D.dd;have em:=iE (H:=H3++[.list (acp.map .bytes)]) (v:=aY (bX,dU d)) (aH q3) (by rw[List.length_map];show 4<al;decide);have l3:H.length<=H3.length:=Bq.le;refine aG (eU (cS rfl (Xv rfl rfl) (iD q3) (Xo (cq (ad Xy (Xo (aR (bB (ad Xy (ad Xy (ad Xy (ad Xy aj)))) (by decide)) (am (Xv rfl rfl) Xi (by rw[<-ek];rfl)) (ci aC ik)))))) em) rfl) (bA (tail true _ _ (FF _) ?_ ?_ ?_ _))
  ·rw[iY (cD (aH q3))];simp[cB]
  ·exact(Bq.trans (.app l3)).trans (.put (.inr (FF _)))
  ·exact b3.app.put (CW (EC yQ)))
 (refine o_eeaeea w0.ok λv H' e ws r zq5 x=>?_;subst zq5);exact(gc ws r H' e x)
end
noncomputable def gH(p:Nat):List Nat:= [0,1,10,32,35,2^p-1,2^p/3]
noncomputable def mY(xs:List Nat):List Int:=xs.map λx:Nat=>(x:Int)
def mq(w h:Nat)(R:List (List Nat)):PD:=⟨w,h,R.map mY⟩
noncomputable def jq(S:List (List (List Nat)))(k y x:Nat):Nat:=(((S[k]?.getD [])[y]?.getD [])[x]?).getD 0
def lm(w h p:Nat)(R:List (List Nat)):Prop:=R.length=h/\∀xs∈R,xs.length=w/\∀x∈xs,x<2^p
theorem rm{l:List α}{g:α->β}{e:Nat->β}(hl:l.length=n)(h:∀i x,l[i]?=some x->g x=e i):l.map g=(CL n).map e:=by
 apply HX;intro i;rw[C8,C8]
 by_cases c:i<n
 ·obtain⟨x,hx⟩:∃x,l[i]?=some x:=⟨_,List.getElem?_eq_getElem (GF c (id (Fv hl)))⟩;rw[hx,EL c];exact CH some (h i x hx)
 ·rw[Dq (hl▸Dj c),Dq (by rw[DC];exact Dj c)];rfl
theorem aod{S:List (List (List Nat))}{R:List (List Nat)}(hR:S[k]?=some R)(sh:lm w h p R):mq w h R=iW (jq S) w h k:=by unfold mq iW;congr 1;refine rm sh.1 λy xs hy=>?_;unfold mY gk fE;rw[FZ];refine rm (sh.2 xs (DT hy)).1 λx v hx=>?_;show(v:Int)=((jq S k y x:Nat):Int);unfold jq;rw[hR,Fo,hy,Fo,hx];rfl
theorem aof{S:List (List (List Nat))}(hl:S.length=d)(sh:∀R∈S,lm w h p R):S.map (mq w h)=bJ (jq S) w h d:=rm hl λk R hk=>aod hk (sh R (DT hk))
theorem ahy{d:Nat}{S:List (List (List Nat))}(sh:∀R∈S,lm w h p R)(k y x:Nat):jq S k y x<2^p:=by
 have p0:0<2^p:=Hl (by decide);unfold jq
 cases e1:S[k]? with
 |none=>exact p0
 |some R=>
  rw[Fo]
  cases e2:R[y]? with
  |none=>exact p0
  |some xs=>
   rw[Fo]
   cases e3:xs[x]? with
   |none=>exact p0
   |some v=>exact((sh R (DT e1)).2 xs (DT e2)).2 v (DT e3)
section
theorem ajE:cT H .min [.int x,.int y]=.ok (.int (if y<x then y else x)) H:=rfl
theorem acK:((2:Int)^p-1)=((2^p-1:Nat):Int):=by have c:((2^p:Nat):Int)=(2:Int)^p:=Fw 2 p;have:0<2^p:=Hl (by decide);exact c▸(Gu this).symm
theorem aqp:((2:Int)^p).fdiv 3=((2^p/3:Nat):Int):=by have c:((2^p:Nat):Int)=(2:Int)^p:=Fw 2 p;rw[<-c,GQ _ (by decide)];rfl
theorem ahh(hi:i<7):∃v,(aA (gH p))[i]?=some (.int (v:Nat)):=⟨(gH p)[i]'hi,by rw[getElem?_ints,List.getElem?_eq_getElem hi];rfl⟩
noncomputable def aa1:PE:=.bi .min (.cons (.idx (.var 6) (.call 20 (.cons (.var 0) (.cons (.s7 7) .nil)))) (.cons (.bin .sub (.bin .pow (.s7 2) (.var 1)) (.s7 1)) .nil))
def se:PE:=.comp aa1 [10] true (.bi .range (.cons (.var 3) .nil)) .nil .nil
theorem aoE{er q:Nat}{a8 a9 a10:AV}(hp:p<=16)(hw:w<=3)(bk:Bk b H)(he:H[er]?=some (.list (aA (gH p))))(be:b≠er):
  W (ev (af (n+1)) se 3 [.ref b,.int p,a2,.int w,.int h,a5,.ref er,a7,a8,a9,a10] H) (λv H'=>∃xs r,v=.ref r/\xs.length=w/\(∀x∈xs,x<2^p)/\H'[r]?=some (.list (aA xs))/\H.length<=r/\Fr b H.length H H'/\Bk b H') bC:=by
 unfold se;refine iA rfl (aM rfl (Xo (Xv rfl rfl)) (eO (ac7 hw))) (λj acc Hc=>∃xs:List Nat,acc=aA xs/\xs.length=j/\(∀x∈xs,x<2^p)/\Fr b H.length H Hc/\Bk b Hc) w ?_ ?_ (λj acc Hc hj i=>?_) (λacc Hc i=>by rw[cr,CJ (CS _)]) λacc Hc i=>?_
 ·show w<=((w:Int)-0).toNat;exact ac8 hw
 ·exact(kg [] rfl rfl (λx hx=>(by cases hx)) (.refl) bk)
 ·obtain⟨xs,rfl,hl,hx,fr,bc⟩:=i;obtain⟨k,H1,hk,e1,f1,b1⟩:=dp (n:=n) bc (top:=7) (by decide) (by decide);obtain⟨v,hv⟩:=ahh (p:=p) hk;have he1:H1[er]?=some (.list (aA (gH p))):=f1.get be.symm (fr.get be.symm he);have e2:ev (af (n+1)) aa1 2 [.ref b,.int p,a2,.int w,.int h,a5,.ref er,a7,a8,a9,.int j] Hc=.ok (.int (if(2:Int)^p-1<v then(2:Int)^p-1 else v)) H1:=
   aM rfl (ad (aR (Xv rfl rfl) (aK (ad (Xv rfl rfl) (ad Xi aj)) e1) (ci he1 hv)) (Xo (am (am Xi (Xv rfl rfl) (jG (p:=p) (ac9 hp))) Xi rfl))) ajE
  have p0:0<2^p:=Hl (by decide);have e3:(if(2:Int)^p-1<v then(2:Int)^p-1 else(v:Int))=((min v (2^p-1):Nat):Int):=by
   rw[acK]
   split
   ·rename_i q;rw[Fn (CN (C2.mp q))]
   ·rename_i q;rw[ED (DP.mp (Ee.mp q))]
  rw[e3] at e2;refine(ax (.int j) _ (by rw[cr,CG hj]) rfl (.of e2 (kg (xs++[min v (2^p-1)]) ?_ (by rw[List.length_append,hl];rfl) (λx q=>?_) (fr.trans (f1.less fr.le)) b1)))
  ·unfold aA;rw[Dr];rfl
  ·rcases DJ.mp q with q |q
   ·exact hx x q
   ·obtain rfl:=DD.mp q;exact Nat.lt_of_le_of_lt (DV ..) (GH p0 EZ)
 ·obtain⟨xs,rfl,hl,hx,fr,bc⟩:=i;refine(eH (by unfold aA al;rw[List.length_map];exact akw hw hl) xs _ rfl hl hx (bY aC fr.le (fr.trans (.app fr.le)) bc.app))
theorem aoG{er:Nat}{a8 a9 a10:AV}(hp:p<=16)(hw:w<=3)(hh:h<=3)(bk:Bk b H)(he:H[er]?=some (.list (aA (gH p))))(be:b≠er)(ll:lo<=H.length):
  W (ev (af (n+1)) (.comp se [9] true (.bi .range (.cons (.var 4) .nil)) .nil .nil) 4 [.ref b,.int p,a2,.int w,.int h,a5,.ref er,a7,a8,a9,a10] H) (λv H'=>∃R r,v=.ref r/\lm w h p R/\tC lo H' r (R.map mY)/\Fr b H.length H H'/\Bk b H') bC:=by
 refine iA rfl (aM rfl (Xo (Xv rfl rfl)) (eO (ac7 hh))) (λj acc Hc=>∃R:List (List Nat),R.length=j/\acc.length=j/\(∀xs∈R,xs.length=w/\∀x∈xs,x<2^p)/\(∀(y:Nat)(xs:List Nat),R[y]?=some xs->∃p,acc[y]?=some (.ref p)/\H.length<=p/\Hc[p]?=some (row (mY xs)))/\Fr b H.length H Hc/\Bk b Hc) h ?_ ?_ (λj acc Hc hj i=>?_) (λacc Hc i=>by rw[cr,CJ (CS _)]) λacc Hc i=>?_
 ·show h<=((h:Int)-0).toNat;exact ac8 hh
 ·exact(gb [] rfl rfl (λx hx=>(by cases hx)) (λy xs e=>(by cases e)) (.refl) bk)
 ·obtain⟨R,hl,yD,hx,ha,fr,bc⟩:=i;refine(ax (.int j) _ (by rw[cr,CG hj]) rfl ((aoE (q:=0) hp hw bc (fr.get be.symm he) be).mono (λv H' q=>?_) λZ Z h=>h));(revert q;refine r_eeaaaa λxs r zq2 l1 l2 l3=>r_aa λl4 f1 b1=>?_;subst zq2);have bl:=bk.lt;refine(gb (R++[xs]) (by rw[List.length_append,hl];rfl) (by rw[List.length_append,yD];rfl) (λys q=>?_) (λy ys e=>?_) (fr.trans (f1.less fr.le)) b1)
  ·rcases DJ.mp q with q |q
   ·exact hx ys q
   ·clear l3;obtain rfl:=DD.mp q;exact⟨l1,l2⟩
  ·rcases qX e with⟨c,e⟩ |⟨rfl,rfl⟩
   ·obtain⟨pp,e1,e2,e3⟩:=ha y ys e;exact(aI pp ((D6 (akx hl yD c)).trans e1) e2 (f1.get (CW (Nat.lt_of_lt_of_le bl e2)) e3))
   ·refine(aI r (by rw[hl,<-yD];exact FV) (Nat.le_trans fr.le l4) (l3.trans ?_));rw[adT];rfl
 ·obtain⟨R,hl,yD,hx,ha,fr,bc⟩:=i;refine(eH (by unfold al;exact aky hh hl yD) R _ rfl ⟨hl,hx⟩ ⟨Nat.le_trans ll fr.le,acc,aC,by rw[List.length_map];exact akz hl yD,λy xs e=>?_⟩ (bE (fr.trans (.app fr.le)) bc.app));rw[C8] at e
  cases e1:R[y]? with
  |none=>rw[e1] at e;cases e
  |some ys=>rw[e1] at e;cases e;obtain⟨pp,q1,q2,q3⟩:=ha y ys e1;exact(aI pp q1 (Nat.le_trans ll q2) (aH q3))
end
noncomputable def ajI:List Str:= ["grey","","rgb","cmyk"]
noncomputable def qC:List Nat:= [1,3,4]
theorem ajH(h:xe d):∃k:Nat,(d:Int)-1=k/\(ajI.map AV.str)[k]?=some (.str (br d)):=by
 rcases h with rfl |rfl |rfl
 ·exact(ae 0 rfl rfl)
 ·exact(ae 2 rfl rfl)
 ·exact(ae 3 rfl rfl)
theorem agU(h:k<3):∃d,xe d/\(aA qC)[k]?=some (.int d):=by
 rcases k with _ |_ |_ |k
 ·exact(ae 1 (.inl rfl) rfl)
 ·exact(ae 3 (.inr (.inl rfl)) rfl)
 ·exact(ae 4 (.inr (.inr rfl)) rfl)
 ·exact(akA h).elim
section
theorem vh.frb(h:vh q H P)(f:Fr b H.length H H1)(hb:b<q):vh q H1 P:=by obtain⟨pl,h1,h2,h3⟩:=h;refine⟨pl,f.get (Dn (CP hb)) h1,h2,λk D e=>?_⟩;obtain⟨v,e1,e2⟩:=h3 k D e;exact(ae v e1 (e2.fr f (Nat.lt_add_right 1 hb)))
theorem aoc(hb:Bk b H)(hp:2<=p/\p<=16):∃ua w h d f H',run (n+2) 22 [.ref b,.int p] H=.ok ua H'/\uD w h d p/\tL H.length H' ua (br d) p (bJ f w h d)/\(∀k y x,f k y x<2^p)/\Fr b H.length H H'/\Bk b H':=by
 have bl:=hb.lt;have w0:=dG (n:=n+1) (k:=22) (np:=2) (nv:=11) (bd:=p9) (vs:= [.ref b,.int p]) (H:=H) (Q:=λua H'=>∃w h d f,uD w h d p/\tL H.length H' ua (br d) p (bJ f w h d)/\(∀k y x,f k y x<2^p)/\Fr b H.length H H'/\Bk b H') (E:=bC) rfl rfl (by
  show W (CE (af (n+1)) p9 [.ref b,.int p,.undef,.undef,.undef,.undef,.undef,.undef,.undef,.undef,.undef] H) _ _;obtain⟨k1,H1,BU,e1,f1,b1⟩:=dp (n:=n) (hb.app (l:= [.list (aA qC)])) (top:=3) (by decide) (by decide);obtain⟨d,hd,hdi⟩:=agU BU;have g1:H1[H.length]?=some (.list (aA qC)):=f1.get (Dn (CP bl)) aC;obtain⟨k2,H2,zC,e2,f2,b2⟩:=dp (n:=n) b1 (top:=3) (by decide) (by decide);obtain⟨k3,H3,BV,e3,f3,b3⟩:=dp (n:=n) b2 (top:=3) (by decide) (by decide);have l1:H.length<=H1.length:=Nat.le_trans (by rw[List.length_append];exact Nat.le_add_right _ _) f1.le;have f13:Fr b H.length H H3:=(((Fr.app (Nat.le_refl _)).trans (f1.less (by rw[List.length_append];exact Nat.le_add_right _ _))).trans (f2.less l1)).trans (f3.less (Nat.le_trans l1 f2.le));have l3:H.length<=H3.length:=f13.le;refine aG (aD (aR (bB (ad Xi (ad Xi (ad Xi aj))) (by decide)) (aK (ad (Xv rfl rfl) (ad Xi aj)) e1) (ci g1 hdi))) ?_;refine aG (dE rfl (cq (ad (am Xi (aK (ad (Xv rfl rfl) (ad Xi aj)) e2) rfl) (ad (am Xi (aK (ad (Xv rfl rfl) (ad Xi aj)) e3) rfl) (ad (bB aj (by decide)) aj)))) rfl) ?_;obtain⟨w,hw,cw⟩:∃w:Nat,(1+k2:Int)=w/\1<=w/\w<=3:=(ae (1+k2) (by rw[FT];rfl) (ada zC));obtain⟨h,hh,ch⟩:∃h:Nat,(1+k3:Int)=h/\1<=h/\h<=3:=(ae (1+k3) (by rw[FT];rfl) (ada BV));rw[hw,hh];have ar1:ev (af (n+1)) (.list (.cons (.s7 0) (.cons (.s7 1) (.cons (.s7 10) (.cons (.s7 32) (.cons (.s7 35) (.cons (.bin .sub (.bin .pow (.s7 2) (.var 1)) (.s7 1)) (.cons (.bin .fdiv (.bin .pow (.s7 2) (.var 1)) (.s7 3)) .nil)))))))) 4 [.ref b,.int p,.int d,.int w,.int h,.ref H3.length,.undef,.undef,.undef,.undef,.undef] (H3++[.list []])=.ok (.ref (H3++[AO.list []]).length) (H3++[.list []]++[.list (aA (gH p))]):=by
   have e:ev (af (n+1)) (.list (.cons (.s7 0) (.cons (.s7 1) (.cons (.s7 10) (.cons (.s7 32) (.cons (.s7 35) (.cons (.bin .sub (.bin .pow (.s7 2) (.var 1)) (.s7 1)) (.cons (.bin .fdiv (.bin .pow (.s7 2) (.var 1)) (.s7 3)) .nil)))))))) 4 [.ref b,.int p,.int d,.int w,.int h,.ref H3.length,.undef,.undef,.undef,.undef,.undef] (H3++[.list []])=.ok (.ref (H3++[AO.list []]).length) (H3++[.list []]++[.list [.int 0,.int 1,.int 10,.int 32,.int 35,.int (2^p-1),.int (((2:Int)^p).fdiv 3)]]):=bB (ad Xi (ad Xi (ad Xi (ad Xi (ad Xi (ad (am (am Xi (Xv rfl rfl) (jG (p:=p) (Nat.le_trans hp.2 (by decide)))) Xi rfl) (ad (am (am Xi (Xv rfl rfl) (jG (p:=p) (Nat.le_trans hp.2 (by decide)))) Xi (o8 (by decide))) aj))))))) (show 7<=al by decide)
   rw[aqp,acK] at e;exact e
  refine aG (aD ar1) ?_;rw[show(H3++[AO.list []]).length=H3.length+1 by rw[List.length_append];rfl];have g5:(H3++[.list []]++[.list (aA (gH p))])[H3.length+1]?=some (.list (aA (gH p))):=by have:=aC (H:=H3++[AO.list []]) (o:=.list (aA (gH p)));rw[List.length_append] at this;exact this
  refine dj rfl (aM rfl (Xo (Xv rfl rfl)) (eO (by have:=hd.le;exact akC this))) (λk ρ Hc=>∃(S:List (List (List Nat)))(a7 a8:AV),ρ=[.ref b,.int p,.int d,.int w,.int h,.ref H3.length,.ref (H3.length+1),a7,a8,.undef,.undef]/\S.length=k/\(∀R∈S,lm w h p R)/\vh H3.length Hc (S.map (mq w h))/\Hc[H3.length+1]?=some (.list (aA (gH p)))/\Fr b H.length H Hc/\Bk b Hc) d ?_ ?_ (λk ρ Hc Gq Nq hk i uF kq=>?_) (λρ Hc i=>by rw[cr,CJ (CS _)]) λρ Hc i=>?_
  ·show d<=((d:Int)-0).toNat;exact akD
  ·refine(ce [] _ _ rfl rfl (λR hR=>(by cases hR)) (bY ⟨[],aH aC,rfl,λk D e=>(by cases e)⟩ g5 (f13.trans ?_) b3.app.app));rw[List.append_assoc];exact .app l3
  ·(revert i;refine r_eeeaaa λS a7 a8 zq3 hl sh=>r_aaa λgr he fr bc=>?_;subst zq3);have q1:=cD he;(refine o_eeaeea ((aoG (n:=n) (lo:=H3.length+1) (a2:=.int d) (a5:=.ref H3.length) (a7:=.int k) (a8:=a8) (a9:=.undef) (a10:=.undef) hp.2 cw.2 ch.2 bc he (CP (EC (Nat.lt_of_lt_of_le bl l3))) (CN q1)).ok) λv H4 e4 R r zq5=>r_aaa λsr ra f4 b4=>?_;subst zq5);have gr4:=gr.frb f4 (Nat.lt_of_lt_of_le bl l3);have pa:tA (H3.length+1) H4 (.inst 0 [.int w,.int h,.ref r]) (mq w h R):=(ae r rfl ra);obtain⟨pl,g6,g7,g8⟩:=gr4.push pa;have dl:=hd.le;rw[List.length_map] at g7;refine(kq (.int k) _ (by rw[cr,CG hk]) rfl (aG (aD e4) (aG (eU (cS rfl (Xv rfl rfl) (iD g6) (Xo (je rfl (ad (Xv rfl rfl) (ad (Xv rfl rfl) (ad (Xv rfl rfl) aj))) rfl)) (iE g6 (by unfold al;exact g7▸hl▸CM hk (Nat.lt_of_le_of_lt dl.2 (by decide))))) rfl) (bA (uF _ _ (gc (S++[R]) _ _ rfl (gN (by rw[List.length_append,hl];rfl) (λR' hR=>?_) ?_ ?_ ?_ (b4.put (CW (Nat.lt_of_lt_of_le bl l3))))))))))
   ·rcases DJ.mp hR with hR |hR
    ·exact sh R' hR
    ·clear ra pa g8;obtain rfl:=DD.mp hR;exact sr
   ·rw[Dr];exact g8
   ·exact(DH akE).trans (f4.get (CW (EC (Nat.lt_of_lt_of_le bl l3))) he)
   ·exact(fr.trans (f4.less fr.le)).trans (.put (.inr l3))
  ·(revert i;refine r_eeeaaa λS a7 a8 zq3 hl sh=>r_aaa λgr he fr bc=>?_;subst zq3);obtain⟨kk,ek,ik⟩:=ajH hd;rw[aof hl sh] at gr;refine dF (je rfl (ad (aR (bB (ad Xs (ad Xs (ad Xs (ad Xs aj)))) (by decide)) (am (Xv rfl rfl) Xi (by rw[<-ek];rfl)) (ci aC ik)) (ad (Xv rfl rfl) (ad (Xv rfl rfl) aj))) rfl) (ef w h d (jq S) ⟨cw,ch,hd,hp⟩ (ae _ rfl ((gr.frb (b:=b) (.app (Nat.le_refl _)) (Nat.lt_of_lt_of_le bl l3)).at' l3)) (bT (ahy (d:=d) sh) (fr.trans (.app fr.le)) bc.app)))
 refine o_eeaeee w0.ok λv H' e w h d=>r_e λf x=>?_;exact(dT v w h d f H' (bE e x))
end
theorem abO{f:AV->AV->Option Bool}:∀{xs ys:List AV},xs.length=ys.length->(∀(i:Nat)(x y:AV),xs[i]?=some x->ys[i]?=some y->f x y=some true)->fe f xs ys=some true
 |[],[],_,_=>rfl
 |[],y::ys,h,_=>by cases h
 |x::xs,[],h,_=>by cases h
 |x::xs,y::ys,h,q=>by have e:=abO (Nat.succ.inj h) λi a b ha hb=>q (i+1) a b ha hb;show(f x y).bind (λa=>(fe f xs ys).map (a&&·))=_;rw[q 0 x y rfl rfl,e];rfl
theorem qK{p q:Nat}{ys:List AV}(h:H[p]?=some (.list xs))(h2:H[q]?=some (.list ys))(hl:xs.length=ys.length)(k:∀(i:Nat)(x y:AV),xs[i]?=some x->ys[i]?=some y->de H n x y=some true):de H (n+1) (.ref p) (.ref q)=some true:=by
 show aJ _ (az H p) (λxs=>aJ none (az H q) λys=>if xs.length=ys.length then fe (de H n) xs ys else some false)=_
 rw[bq h,bq h2];exact(CG hl).trans (abO hl k)
theorem aho{i:Int}:de H (n+1) (.int i) (.int i)=some true:=CH some (Du i)
theorem abQ{r r':Nat}{R:List (List Int)}(a:tC lo H r R)(b:tC u9 H r' R):de H (n+3) (.ref r) (.ref r')=some true:=by
 obtain⟨_,ps,a1,a2,a3⟩:=a;obtain⟨_,qs,b1,b2,b3⟩:=b;refine qK a1 b1 (a2.trans b2.symm) λy u v hu hv=>?_;have hy:y<R.length:=by rw[<-a2];exact(List.getElem?_eq_some_iff.mp hu).1
 obtain⟨p,e1,_,e2⟩:=a3 y _ (List.getElem?_eq_getElem hy);obtain⟨q,e3,_,e4⟩:=b3 y _ (List.getElem?_eq_getElem hy);obtain rfl:=C0 (hu.symm.trans e1);obtain rfl:=C0 (hv.symm.trans e3);refine qK e2 e4 rfl λx u v hu hv=>?_;obtain rfl:=C0 (hu.symm.trans hv);rw[C8] at hu
 cases hx:(R[y])[x]? with
 |none=>rw[hx] at hu;cases hu
 |some z=>rw[hx] at hu;clear hv;cases hu;exact aho
theorem abg{x y:AV}(h:de H 4 x y=some true):bj H .eq x y=some true:=h
section
variable {m:Nat}{zp:PE}{q:AV}{t:List Nat}
theorem aff{P:AV->AH->Prop}(hd:Γ.hd=false)(hi:ev Γ it (m+1) ρ H=.ok src H1)(hz:ev Γ zp (m+1) ρ H1=.ok q H2)(I:Nat->List AV->AH->Prop)(N:Nat)(hN:N<=cJ H2 src)(h0:I 0 [] H2)
  (hs:∀j acc H,j<N->I j acc H->∃v vd,fg H src q j=some (some v)/\bz H t one v ρ=some vd/\W (ev Γ elt m vd H) (λx H'=>I (j+1) (acc++[x]) H') bC)
  (he:∀acc H,I N acc H->fg H src q N=some none) (k:∀acc H,I N acc H->acc.length<=al/\P (.ref H.length) (H++[.list acc])):W (ev Γ (.comp elt t one it (.cons zp .nil) .nil) (m+1) ρ H) P E:=by
 rw[E1.comp];rw[hi];refine W.bind (W.of rfl ?_);refine W.bind (W.of (ad hz aj) ?_);rw[hd];rw[CJ (by rw[HI];decide)];refine W.bind ((abn I N (λj acc H hj i=>?_) he _ 0 [] H2 h0 (DY _) (Eo hN)).mono (λxs H h=>?_) λZ Z h=>h)
 ·obtain⟨v,vd,e1,e2,w⟩:=hs j acc H hj i;refine(ae v e1 ?_);rw[e2];dsimp only;rw[gC];exact W.bind (.of rfl (W.bind (w.mono (λx H' i=>.of rfl i) λZ Z h=>h)))
 ·obtain⟨h1,h2⟩:=k xs H h;unfold cn;rw[CG h1];exact .of rfl h2
end
section
variable {m:Str}{p:Int}{u:AV}
theorem apo(a:tA lo H u D)(b:tA u9 H v D):run (n+1) 3 [u,v] H=.ok (.bool true) H:=by obtain⟨r,rfl,a⟩:=a;obtain⟨r',rfl,b⟩:=b;refine dQ rfl rfl ?_;show CE (af n) aaH [_,_] H=_;exact Sr (cR (db (bV (aw (ay (Xv rfl rfl) rfl) (ay (Xv rfl rfl) rfl) (iG (Du _))) (bV (aw (ay (Xv rfl rfl) rfl) (ay (Xv rfl rfl) rfl) (iG (Du _))) (bV (aw (ay (Xv rfl rfl) rfl) (ay (Xv rfl rfl) rfl) (abg (abQ a b))) gC)))))
theorem m6{s:Str}:bj H .ne (.str s) (.str s)=some false:=by show some (!(s==s))=_;rw[Du];rfl
theorem ad3(a:tL lo H u m p P)(b:tL u9 H v m p P)(hl:P.length<1000):∃H',run (n+2) 4 [u,v] H=.ok (.bool true) H'/\Fr H.length H.length H H':=by
 (revert a;refine r_ea λq zq1 zq2=>?_;subst zq1;obtain⟨_,pl,a1,a2,a3⟩:=zq2);(revert b;refine r_ea λq' zq1 zq2=>?_;subst zq1;obtain⟨_,pl',b1,b2,b3⟩:=zq2);have la:=gf a1;have lb:=gf b1;rw[a2] at la;rw[b2] at lb;have w0:=dG (k:=4) (nv:=4) (bd:=qh) (vs:= [.inst 1 [.str m,.int p,.ref q],.inst 1 [.str m,.int p,.ref q']]) (Q:=λv H'=>v=.bool true/\Fr H.length H.length H H') (E:=bC) rfl rfl (by
  show W (CE (af (n+1)) qh [.inst 1 [.str m,.int p,.ref q],.inst 1 [.str m,.int p,.ref q'],.undef,.undef] H) _ _;refine fQ (bW (bx (aw (ay (Xv rfl rfl) rfl) (ay (Xv rfl rfl) rfl) m6) (bx (aw (ay (Xv rfl rfl) rfl) (ay (Xv rfl rfl) rfl) (jl (Du _))) (bx (aw (aM rfl (Xo (ay (Xv rfl rfl) rfl)) la) (aM rfl (Xo (ay (Xv rfl rfl) rfl)) lb) (jl (Du _))) fS)))) ?_;have w1:W (ev (af (n+1)) (.comp (.call 3 (.cons (.var 2) (.cons (.var 3) .nil))) [2,3] false (.attr (.var 0) 5) (.cons (.attr (.var 1) 5) .nil) .nil) 4 [.inst 1 [.str m,.int p,.ref q],.inst 1 [.str m,.int p,.ref q'],.undef,.undef] H) (λv H'=>v=.ref H.length/\H'=H++[.list ((CL P.length).map λZ=>AV.bool true)]) bC:=by
   refine aff rfl (ay (Xv rfl rfl) rfl) (ay (Xv rfl rfl) rfl) (λj acc Hc=>Hc=H/\acc=(CL j).map λZ=>AV.bool true) P.length ?_ ⟨rfl,rfl⟩ (λj acc Hc hj i=>?_) (λacc Hc i=>?_) λacc Hc i=>?_
   ·rw[eZ a1,a2];exact Nat.le_refl _
   ·clear la lb;obtain⟨rfl,rfl⟩:=i;obtain⟨x,e1,e2⟩:=a3 j _ (List.getElem?_eq_getElem hj);obtain⟨y,e3,e4⟩:=b3 j _ (List.getElem?_eq_getElem hj);refine(ax (.tup [x,y]) _ ?_ rfl (.of (aK (ad (Xv rfl ?_) (ad (Xv rfl ?_) aj)) (apo e2 e4)) ⟨rfl,?_⟩))
    ·show aJ none (az Hc q) (λxs=>aJ none (az Hc q') λys=>some ((xs[j]?).bind λx=>(ys[j]?).map λy=>AV.tup [x,y]))=_;rw[bq a1,bq b1];show some ((pl[j]?).bind _)=_;rw[e1];show some ((pl'[j]?).map _)=_;rw[e3];rfl
    ·(revert e2;refine r_ea λr zq1 Z=>?_;clear e1;subst zq1);rfl
    ·(revert e4;refine r_ea λr zq1 Z=>?_;clear e3;subst zq1);rfl
    ·rw[Jl,Dr];rfl
   ·clear a3 b3 la lb;obtain⟨rfl,rfl⟩:=i;show aJ none (az Hc q) (λxs=>aJ none (az Hc q') λys=>some ((xs[P.length]?).bind λx=>(ys[P.length]?).map λy=>AV.tup [x,y]))=_;rw[bq a1,bq b1];show some ((pl[P.length]?).bind _)=_;rw[Dq (CZ a2)];rfl
   ·clear a1 a3 b1 b3 la lb;obtain⟨rfl,rfl⟩:=i;exact⟨by rw[List.length_map,DC];unfold al;exact akF hl a2 b2,rfl,rfl⟩
  (obtain⟨v,H1,e1,zq3,zq4⟩:=w1.ok;subst zq3;subst zq4);exact dF (aM rfl (Xo e1) aan) ⟨rfl,.app (Nat.le_refl _)⟩)
 obtain⟨v,H',e,rfl,x⟩:=w0.ok;exact(ae H' e x)
end
structure vA(p:Nat)(D:PD):Prop where
 w:1<=D.w
 h:1<=D.h
 len:(D.rows.length:Int)=D.h
 rows:∀(y:Nat)(xs:List Int),D.rows[y]?=some xs->(xs.length:Int)=D.w/\∀(i:Nat)(z:Int),xs[i]?=some z->0<=z/\z<=2^p-1
section
theorem ab9(hp:p<=1000):run (n+1) 2 [.int p] H=.ok (.int (2^p-1)) H:=by
 have e:dc .shl (.int 1) (.int p) H=.ok (.int (1*2^p)) H:=by show au R.bad (0<=(p:Int)/\(p:Int)<=1000/\(1:Int).natAbs<cI) _=_;unfold au;rw[CG ⟨by exact rN hp,by exact(FA rfl rfl hp),by decide⟩,DQ]
 rw[Kz] at e;exact dQ rfl rfl (Sr (cR (am (am Xi (Xv rfl rfl) e) Xi rfl)))
theorem af5{m:Nat}{b:PE}{x y:Bool}(h1:ev Γ a m ρ H=.ok (.bool x) H)(h2:ev Γ b m ρ H=.ok (.bool y) H):ev Γ (.bor (.cons a (.cons b .nil))) m ρ H=.ok (.bool (x||y)) H:=by
 cases x with
 |true=>exact bW (dk h1)
 |false=>
  cases y with
  |true=>exact bW (bx h1 (dk h2))
  |false=>exact bW (bx h1 (bx h2 fS))
theorem aaM{m:Nat}{b c:PE}{x y z:Bool}(h1:ev Γ a m ρ H=.ok (.bool x) H)(h2:ev Γ b m ρ H=.ok (.bool y) H)(h3:ev Γ c m ρ H=.ok (.bool z) H):ev Γ (.bor (.cons a (.cons b (.cons c .nil)))) m ρ H=.ok (.bool (x||(y||z))) H:=by
 cases x with
 |true=>exact bW (dk h1)
 |false=>
  cases y with
  |true=>exact bW (bx h1 (dk h2))
  |false=>
   cases z with
   |true=>exact bW (bx h1 (bx h2 (dk h3)))
   |false=>exact bW (bx h1 (bx h2 (bx h3 fS)))
theorem lH:bj H .ne (.int x) (.int y)=some (!(x==y)):=rfl
theorem aiM{i:Int}:cT H .isInt [.int i]=.ok (.bool true) H:=rfl
theorem aoe(a:tA lo H v D)(hp:p<=1000):W (run (n+2) 5 [v,.int p] H) (λu H'=>u=.none/\H'=H/\vA p D) (λj H'=>j=2/\H'=H/\¬vA p D):=by
 (revert a;refine r_ea λr zq1 zq2=>?_;subst zq1;obtain⟨_,ps,g1,g2,g3⟩:=zq2);have ll:=gf g1;rw[g2] at ll;refine dG rfl rfl ?_;show W (CE (af (n+1)) aaF [.inst 0 [.int D.w,.int D.h,.ref r],.int p,.undef,.undef,.undef] H) _ _;refine fj (aaM (aw (ay (Xv rfl rfl) rfl) Xi (ii rfl)) (aw (ay (Xv rfl rfl) rfl) Xi (ii rfl)) (aw (aM rfl (Xo (ay (Xv rfl rfl) rfl)) ll) (ay (Xv rfl rfl) rfl) lH)) (λe=>Wx rfl ⟨rfl,rfl,λg=>?_⟩) λe=>bA ?_
 ·have:=g.w;have:=g.h;have:=g.len;simp only[Ez,C3,Ft,EF] at e;exact e.elim (Ee.mpr (by assumption)) λh=>h.elim (Ee.mpr (by assumption)) λh=>h this
 ·have e:1<=D.w/\1<=D.h/\(D.rows.length:Int)=D.h:=by
   simp only[ET,FN,Gm,C9] at e;exact⟨Ee.mp e.1,Ee.mp e.2.1,e.2.2⟩
  refine aG (aD (aK (Xo (Xv rfl rfl)) (ab9 hp))) (dj rfl (ay (Xv rfl rfl) rfl) (λy ρ Hc=>Hc=H/\(∃a3 a4,ρ=[.inst 0 [.int D.w,.int D.h,.ref r],.int p,.int (2^p-1),a3,a4])/\∀(y':Nat)(xs:List Int),y'<y->D.rows[y']?=some xs->(xs.length:Int)=D.w/\∀(i:Nat)(z:Int),xs[i]?=some z->0<=z/\z<=2^p-1) D.rows.length ?_ ⟨rfl,(cK _ _ rfl),λy' xs h Z=>CI h (DX _)⟩ (λy ρ Hc Gq Nq hy i uF kq=>?_) (λρ Hc i=>?_) λρ Hc i=>?_)
  ·rw[eZ g1,g2];exact Nat.le_refl _
  ·(revert i;refine r_aa λzq0 zq1 ih=>?_;subst zq0;obtain⟨a3,a4,rfl⟩:=zq1);obtain⟨xs,hx⟩:∃xs,D.rows[y]?=some xs:=⟨_,List.getElem?_eq_getElem hy⟩;obtain⟨rp,q1,_,q2⟩:=g3 y xs hx;have lr:=gf q2;rw[List.length_map] at lr;refine(kq (.ref rp) _ ((cM g1).trans (CH some q1)) rfl (fj (aw (aM rfl (Xo (Xv rfl rfl)) lr) (ay (Xv rfl rfl) rfl) lH) (λe=>Wx rfl ⟨rfl,rfl,λg=>?_⟩) λe2=>bA ?_))
   ·rw[Ft,EF] at e;exact e (g.rows y xs hx).1
   ·rw[Gm,C9] at e2;refine dj rfl (Xv rfl rfl) (λx ρ Hd=>Hd=Hc/\(∃a4,ρ=[.inst 0 [.int D.w,.int D.h,.ref r],.int p,.int (2^p-1),.ref rp,a4])/\∀(i:Nat)(z:Int),i<x->xs[i]?=some z->0<=z/\z<=2^p-1) xs.length ?_ ⟨rfl,⟨_,rfl⟩,λi z h Z=>CI h (DX _)⟩ (λx ρ Hd Gq Nq A1 i uF kq=>?_) (λρ Hd i=>?_) λρ Hd i=>?_
    ·rw[eZ q2,List.length_map];exact Nat.le_refl _
    ·(revert i;refine r_aa λzq0 zq1 A5=>?_;clear g1 g3 ll lr;subst zq0;obtain⟨a4,rfl⟩:=zq1);obtain⟨z,hz⟩:∃z,xs[x]?=some z:=⟨_,List.getElem?_eq_getElem A1⟩;refine(kq (.int z) _ ((cM q2).trans (by rw[C8,hz];rfl)) rfl (fj (aaM (iB (aM rfl (Xo (Xv rfl rfl)) aiM)) (aw (Xv rfl rfl) Xi (ii rfl)) (aw (Xv rfl rfl) (Xv rfl rfl) (eW rfl))) (λe=>Wx rfl ⟨rfl,rfl,λg=>?_⟩) λe=>bA (bA (uF _ _ (bT rfl ⟨_,rfl⟩ (λi u hi hu=>?_))))))
     ·have:=(g.rows y xs hx).2 x z hz;rw[J6,Gl,Ez,C3,C3] at e;exact e.elim (Ee.mpr this.1) (Ee.mpr this.2)
     ·rw[J6,Gl,ET,FN,FN] at e
      by_cases c:i=x
      ·clear A1 A5 uF kq hi;subst c;obtain rfl:=C0 (hz.symm.trans hu);exact⟨Ee.mp e.1,Ee.mp e.2⟩
      ·exact A5 i u (Ei (Eh hi) c) hu
    ·clear g1 g3 ll uF kq lr;obtain⟨rfl,_⟩:=i;rw[cM q2,Dq (by rw[List.length_map];exact Nat.le_refl _)]
    ·(revert i;refine r_aa λzq0 zq1 A5=>?_;clear g1 g3 ll q2 lr;subst zq0;obtain⟨a4,rfl⟩:=zq1);refine bA (uF _ _ (bT rfl (cK _ _ rfl) (λy' ys hy' Aw=>?_)))
     by_cases c:y'=y
     ·clear hy ih q1 uF kq hy';subst c;obtain rfl:=C0 (hx.symm.trans Aw);exact⟨e2,λi z hz=>A5 i z (List.getElem?_eq_some_iff.mp hz).1 hz⟩
     ·exact ih y' ys (Ei (Eh hy') c) Aw
  ·clear g3 ll;obtain⟨rfl,_⟩:=i;rw[cM g1,Dq (CZ g2)]
  ·(revert i;refine r_aa λzq0 zq1 ih=>?_;clear g1 g3 ll;subst zq0;obtain⟨a3,a4,rfl⟩:=zq1);exact bA ⟨rfl,rfl,e.1,e.2.1,e.2.2,λy xs hx=>ih y xs (List.getElem?_eq_some_iff.mp hx).1 hx⟩
noncomputable def kT:List (Str×Int):= [("grey",1),("rgb",3),("ycc",3),("cmyk",4),("ycck",4)]
noncomputable def m7(m:Str):Int:=((kT.find? λe=>e.1==m).map (·.2)).getD 0
theorem agK:dW H .get (.gd 5) [.str m,.int 0]=.ok (.int (m7 m)) H:=by
 have e:((tabS 5).find? λe=>e.1==m).map (·.2)=((kT.find? λe=>e.1==m).map (·.2)).map AV.int:=by have:tabS 5=kT.map λe=>(e.1,AV.int e.2):=rfl;rw[this,KT];show((kT.find? _).map _).map _=((kT.find? _).map _).map _;rw[Iq,Iq];rfl
 show R.ok ((((tabS 5).find? λe=>e.1==m).map (·.2)).getD (.int 0)) H=_;rw[e];unfold m7;cases(kT.find? λe=>e.1==m).map (·.2)<;>rfl
structure vX(m:Str)(p:Nat)(P:List PD):Prop where
 pp:2<=p/\p<=16
 ne:P≠[]
 cnt:m≠"raw"->m7 m=P.length/\∀D0 D,P[0]?=some D0->D∈P->D.w=D0.w/\D.h=D0.h
 all:∀D∈P,vA p D
theorem ahn{r:Nat}(h:H[q]?=some (.list xs))(h2:H[r]?=some (.list [])):bj H .eq (.ref q) (.ref r)=some xs.isEmpty:=by
 show aJ (il (.ref q) (.ref r)) (az H q) (λxs=>aJ none (az H r) λys=>if xs.length=ys.length then fe (de H 3) xs ys else some false)=_
 rw[bq h,bq h2]
 cases xs with
 |nil=>rfl
 |cons x xs=>rfl
theorem abh{s t:Str}:bj H .ne (.str s) (.str t)=some (!(s==t)):=rfl
theorem af6{m:Nat}{b c:PE}{x y z:Bool}(h1:ev Γ a m ρ H=.ok (.bool x) H)(h2:ev Γ b m ρ H=.ok (.bool y) H)(h3:ev Γ c m ρ H=.ok (.bool z) H1):∃H2,(H2=H\/H2=H1)/\ev Γ (.bor (.cons a (.cons b (.cons c .nil)))) m ρ H=.ok (.bool (x||(y||z))) H2:=by
 cases x with
 |true=>exact(ae _ (.inl rfl) (bW (dk h1)))
 |false=>
  cases y with
  |true=>exact(ae _ (.inl rfl) (bW (bx h1 (dk h2))))
  |false=>
   cases z with
   |true=>exact(ae _ (.inr rfl) (bW (bx h1 (bx h2 (dk h3)))))
   |false=>exact(ae _ (.inr rfl) (bW (bx h1 (bx h2 (bx h3 fS)))))
end
section
variable {r:Nat}{R:List (List Int)}{i:Int}
theorem tC.app(h:tC lo H r R):tC lo (H++l) r R:=by obtain⟨h0,ps,h1,h2,h3⟩:=h;refine⟨h0,ps,aH h1,h2,λy xs e=>?_⟩;obtain⟨p,e1,e2,e3⟩:=h3 y xs e;exact(aI p e1 e2 (aH e3))
theorem tA.app(h:tA lo H v D):tA lo (H++l) v D:=by obtain⟨r,h1,h2⟩:=h;exact(ae r h1 h2.app)
theorem tE.app(h:tE lo H q P):tE lo (H++l) q P:=by obtain⟨h0,pl,h1,h2,h3⟩:=h;refine⟨h0,pl,aH h1,h2,λk D e=>?_⟩;obtain⟨v,e1,e2⟩:=h3 k D e;exact(ae v e1 e2.app)
theorem tL.app(h:tL lo H v m i P):tL lo (H++l) v m i P:=by obtain⟨q,h1,h2⟩:=h;exact(ae q h1 h2.app)
theorem aog(g:tE lo H q P)(hp:p<=1000)(hQ:(∀D∈P,vA p D)->∀ρ,Q (.next ρ) H)(hE:∀D∈P,¬vA p D->E 2 H):
  W (CE (af (n+2)) (.cons (.for [2] true (.attr (.var 0) 5) (.cons (.expr (.call 5 (.cons (.var 2) (.cons (.attr (.var 0) 4) .nil)))) .nil)) .nil) [.inst 1 [.str m,.int p,.ref q],a1,a2] H) Q E:=by
 obtain⟨_,pl,g1,g2,g3⟩:=g;refine dj rfl (ay (Xv rfl rfl) rfl) (λk ρ Hc=>Hc=H/\(∃a2,ρ=[.inst 1 [.str m,.int p,.ref q],a1,a2])/\∀k' D,k'<k->P[k']?=some D->vA p D) P.length ?_ ⟨rfl,⟨_,rfl⟩,λk' D h Z=>CI h (DX _)⟩ (λk ρ Hc Gq Nq hk i uF kq=>?_) (λρ Hc i=>?_) λρ Hc i=>?_
 ·rw[eZ g1,g2];exact Nat.le_refl _
 ·(revert i;refine r_aa λzq0 zq1 ih=>?_;subst zq0;obtain⟨a2,rfl⟩:=zq1);obtain⟨D,hD⟩:∃D,P[k]?=some D:=⟨_,List.getElem?_eq_getElem hk⟩;obtain⟨x,e1,e2⟩:=g3 k D hD;have w:=aoe (n:=n) e2 hp;obtain⟨r,rfl,_⟩:=e2;refine(kq _ _ ((cM g1).trans (CH some e1)) rfl ?_)
  cases w with
  |of e q'=>
   (revert q';refine r_aa λzq0 zq1 gd=>?_;subst zq0;clear hQ hE g1 g3;subst zq1);refine aG (eU (aK (ad (Xv rfl rfl) (Xo (ay (Xv rfl rfl) rfl))) e) rfl) (bA (uF _ _ (bT rfl ⟨_,rfl⟩ (λk' D' wS Am=>?_))))
   by_cases c:k'=k
   ·clear hk ih e1 uF kq wS;subst c;obtain rfl:=C0 (hD.symm.trans Am);exact gd
   ·exact ih k' D' (Ei (Eh wS) c) Am
  |xA e q'=>(revert q';refine r_aa λzq0 zq1 gd=>?_;subst zq0;clear hQ g1 g3 uF kq;subst zq1);exact gB (.xA (by rw[E5.expr];exact X2 (aK (ad (Xv rfl rfl) (Xo (ay (Xv rfl rfl) rfl))) e)) (hE D (DT hD) gd))
 ·clear hQ hE g3;obtain⟨rfl,_⟩:=i;rw[cM g1,Dq (CZ g2)]
 ·(revert i;refine r_aa λzq0 zq1 ih=>?_;clear hE g1 g3;subst zq0;obtain⟨a2,rfl⟩:=zq1);exact bA (hQ (λD hD=>by obtain⟨k,hk⟩:=Je hD;exact ih k D (List.getElem?_eq_some_iff.mp hk).1 hk) _)
theorem adK(g:tL lo H v m p P):W (run (n+3) 6 [v] H) (λu H'=>u=.none/\(∃l,H'=H++l)/\vX m p P) (λj H'=>j=2/\(∃l,H'=H++l)/\¬vX m p P):=by
 obtain⟨q,rfl,g⟩:=g;have g':=g;obtain⟨_,pl,g1,g2,g3⟩:=g;refine dG rfl rfl ?_;show W (CE (af (n+2)) aaE [.inst 1 [.str m,.int p,.ref q],.undef,.undef] H) _ _;have en:pl.isEmpty=true↔P=[]:=by rw[DR,<-Gw,g2,Gw]
 obtain⟨H2,xW,e1⟩:=af6 (Γ:=af (n+2)) (m:=4) (ρ:= [.inst 1 [.str m,.int p,.ref q],.undef,.undef]) (a:=.cmp (.attr (.var 0) 4) .lt (.s7 2)) (b:=.cmp (.attr (.var 0) 4) .gt (.s7 16)) (c:=.cmp (.attr (.var 0) 5) .eq (.list .nil)) (aw (ay (Xv rfl rfl) rfl) Xi (ii rfl)) (aw (ay (Xv rfl rfl) rfl) Xi (eW rfl)) (aw (ay (Xv rfl rfl) rfl) (bB aj (by decide)) (ahn (aH g1) aC));obtain⟨l,rfl⟩:∃l,H2=H++l:=by
  rcases xW with rfl |rfl
  ·exact⟨[],(Dk _).symm⟩
  ·exact⟨_,rfl⟩
 refine fj e1 (λe=>Wx rfl ⟨rfl,⟨l,rfl⟩,λgp=>?_⟩) λe=>bA ?_
 ·have:=gp.pp;rw[Ez,Ez,C3,C3] at e;rcases e with e |e |e
  ·exact akH this e
  ·exact akI this e
  ·exact gp.ne (en.mp e)
 ·rw[ET,ET,FN,FN] at e;have hp:2<=p/\p<=16:=by omega
  have um:P≠[]:=λq=>by rw[en.mpr q] at e;cases e.2.2
  have fin:∀a1 a2,(m≠"raw"->m7 m=P.length/\∀D0 D,P[0]?=some D0->D∈P->D.w=D0.w/\D.h=D0.h)->W (CE (af (n+2)) (.cons (.for [2] true (.attr (.var 0) 5) (.cons (.expr (.call 5 (.cons (.var 2) (.cons (.attr (.var 0) 4) .nil)))) .nil)) .nil) [.inst 1 [.str m,.int p,.ref q],a1,a2] (H++l))
    (λfl H'=>match fl with | .ret u=>u=.none/\(∃l,H'=H++l)/\vX m p P | .next _=>AV.none=.none/\(∃l,H'=H++l)/\vX m p P) (λj H'=>j=2/\(∃l,H'=H++l)/\¬vX m p P):=λa1 a2 hc=>
   aog g'.app (by omega) (λha Z=>⟨rfl,⟨l,rfl⟩,hp,um,hc,ha⟩) λD hD hn=>⟨rfl,⟨l,rfl⟩,λgp=>hn (gp.all D hD)⟩
  have h1:(H++l)[q]?=some (.list pl):=aH g1;have ll:=gf h1;rw[g2] at ll
  refine fj (r:= !(m=="raw")) (aw (ay (Xv rfl rfl) rfl) Xs abh) (λe2=>?_) λe2=>bA (fin _ _ λq=>CI (eq_of_beq (by rw[Gm] at e2;exact e2)) q)
  have hm:m≠"raw":=by rw[Ft,EF] at e2;exact e2
  refine fj (aw (cS rfl Xg rfl (ad (ay (Xv rfl rfl) rfl) (Xo Xi)) agK) (aM rfl (Xo (ay (Xv rfl rfl) rfl)) ll) lH) (λe3=>Wx rfl ⟨rfl,⟨l,rfl⟩,λgp=>?_⟩) λe3=>bA ?_
  ·rw[Ft,EF] at e3;exact e3 (gp.cnt hm).1
  rw[Gm,C9] at e3;obtain⟨D0,An⟩:∃D0,P[0]?=some D0:=⟨_,List.getElem?_eq_getElem (Ia.mpr um)⟩;obtain⟨x0,i1,r0,rfl,i2⟩:=g3 0 D0 An;refine aG (aD (aR (ay (Xv rfl rfl) rfl) Xi (ci (d:=0) h1 i1))) (dj rfl (ay (Xv rfl rfl) rfl) (λk ρ Hc=>Hc=H++l/\(∃a2,ρ=[.inst 1 [.str m,.int p,.ref q],.inst 0 [.int D0.w,.int D0.h,.ref r0],a2])/\∀k' D,k'<k->P[k']?=some D->D.w=D0.w/\D.h=D0.h) P.length ?_ ⟨rfl,⟨_,rfl⟩,λk' D h Z=>CI h (DX _)⟩ (λk ρ Hc Gq Nq hk i uF kq=>?_) (λρ Hc i=>?_) λρ Hc i=>?_)
  ·rw[eZ h1,g2];exact Nat.le_refl _
  ·(revert i;refine r_aa λzq0 zq1 ih=>?_;subst zq0;obtain⟨a2,rfl⟩:=zq1);obtain⟨D,hD⟩:∃D,P[k]?=some D:=⟨_,List.getElem?_eq_getElem hk⟩;obtain⟨x,j1,r,rfl,j2⟩:=g3 k D hD;refine(kq _ _ ((cM h1).trans (CH some j1)) rfl (fj (af5 (aw (ay (Xv rfl rfl) rfl) (ay (Xv rfl rfl) rfl) lH) (aw (ay (Xv rfl rfl) rfl) (ay (Xv rfl rfl) rfl) lH)) (λe4=>Wx rfl ⟨rfl,⟨l,rfl⟩,λgp=>?_⟩) λe4=>bA (bA (uF _ _ (bT rfl ⟨_,rfl⟩ (λk' D' wS Am=>?_))))))
   ·have:=(gp.cnt hm).2 D0 D An (DT hD);rw[this.1,this.2,Du,Du] at e4;cases e4
   ·rw[ET,Gm,Gm,C9,C9] at e4
    by_cases c:k'=k
    ·clear hk uF ih kq j1 wS;subst c;obtain rfl:=C0 (hD.symm.trans Am);exact e4
    ·exact ih k' D' (Ei (Eh wS) c) Am
  ·obtain⟨rfl,_⟩:=i;rw[cM h1,Dq (CZ g2)]
  ·(revert i;refine r_aa λzq0 zq1 ih=>?_;subst zq0;obtain⟨a2,rfl⟩:=zq1);refine bA (fin _ _ λZ=>⟨e3,λD0' D h0 hD=>?_⟩);obtain rfl:=C0 (An.symm.trans h0);obtain⟨k,hk⟩:=Je hD;exact ih k D (List.getElem?_eq_some_iff.mp hk).1 hk
end
theorem qN{Γ:Ctx}:∀(k:Nat){ss:tQ}{ρ ρ':aB}{H H':AH}{t:R Fl},CE Γ (fi k ss) ρ H=.ok (.next ρ') H'->CE Γ (fY k ss) ρ' H'=t->CE Γ ss ρ H=t
 |0,ss,ρ,ρ',H,H',t,h,q=>by
  have:fi 0 ss=.nil:=by clear h q;cases ss<;>rfl
  rw[this,Sn] at h;cases h;have:fY 0 ss=ss:=by clear this q;cases ss<;>rfl
  rw[this] at q;exact q
 |k+1,.nil,ρ,ρ',H,H',t,h,q=>by rw[show fi (k+1) .nil=.nil from rfl,Sn] at h;cases h;exact q
 |k+1,.cons s ss,ρ,ρ',H,H',t,h,q=>by
  obtain⟨fl,H1,e,h⟩:=R.wa (E6.cons |>.symm.trans h)
  cases fl with
  |next vd=>exact(E6.cons.trans (CH (R.bind · _) e)).trans (qN k h q)
  |ret v=>cases h
section
theorem ap6{i:Int}(s:tM i)(hi:i.natAbs<10^18)(he:ev (af n) e k ρ H=.ok (.int i) H):ev (af n) (.tN .encode (.bi .str (.cons e .nil)) (.cons (.tH "ascii") .nil)) k ρ H=.ok (.bytes (bf i)) H:=by
 have e1:cT H .str [.int i]=.ok (.str (eR i)) H:=by show au R.bad (i.natAbs<10^18) (R.ok (AV.str (eR i)) H)=_;unfold au;exact CG hi
 have e2:∀(t:Str)(c:Bool),c=true->au R.bad (c=true) (R.ok (AV.bytes (t.cps.toList.map CT)) H)=R.ok (AV.bytes (t.cps.toList.map CT)) H:=λt c q=>CG q
 have e3:dW H .encode (.str (eR i)) [.str "ascii"]=.ok (.bytes (bf i)) H:=e2 (eR i) _ (by
  rw(occs:=.all) [Bool.and_eq_true,Bool.and_eq_true,C3];exact⟨⟨Du _,s.low⟩,s.size⟩)
 exact cS rfl (aM rfl (Xo he) e1) rfl (Xo Xs) e3
theorem aiE{x:AV}(h:vs[k]?=some x)(hk:k<1000):eJ H (.tup vs) (.int k)=some x:=by show au none (0<=(k:Int)/\(k:Int)<1000) (vs[(k:Int).toNat]?)=_;unfold au;rw[CG ⟨by exact akJ hk,by exact(IR.mp hk)⟩,DQ];exact h
def fH(w h d p:Nat):List Bs:= [aq,aW++[32]++bf w,aV++[32]++bf h,aZ++[32]++bf d,aU++[32]++bf (2^p-1)]
def jb(d:Nat):List Bs:= [[84,85,80,76,84,89,80,69,32]++dU d,aQ,[]]
noncomputable def ac1(w h d p:Nat):List AV:= [.int w,.int h,.int d,.int (2^p-1)]
theorem ah9(D:uD w h d p)(hf:∀k y x,f k y x<2^p):vX (br d) p (bJ f w h d):=by
 have dl:=D.dd.le;have mem:∀E∈bJ f w h d,∃k,E=iW f w h k:=λE hE=>by(obtain⟨k,_,zq2⟩:=Dt.mp hE;clear hE;subst zq2);exact⟨k,rfl⟩
 have ln:(bJ f w h d).length=d:=by unfold bJ;rw[List.length_map,DC]
 refine⟨D.pp,λe=>?_,λZ=>⟨?_,λD0 E h0 hE=>?_⟩,λE hE=>?_⟩
 ·rw[e] at ln;change 0=d at ln;exact akK dl ln
 ·rw[ln];clear dl mem ln;rcases D.dd with rfl |rfl |rfl<;>decide
 ·obtain⟨k,rfl⟩:=mem E hE;obtain⟨k0,rfl⟩:=mem D0 (DT h0);exact⟨rfl,rfl⟩
 ·obtain⟨k,rfl⟩:=mem E hE;refine⟨?_,?_,?_,λy xs hy=>?_⟩
  ·have:=D.ww;show(1:Int)<=w;exact oh this
  ·have:=D.hh;show(1:Int)<=h;exact oh this
  ·show(((CL h).map (gk f w k)).length:Int)=h;rw[List.length_map,DC]
  ·change((CL h).map (gk f w k))[y]?=some xs at hy;(obtain⟨y',_,zq2⟩:=Dt.mp (DT hy);clear hy;subst zq2);unfold gk fE;refine⟨?_,λi z hz=>?_⟩
   ·show(((Ib _ (Ib _ (CL w))).length:Nat):Int)=w;rw[List.length_map,List.length_map,DC]
   ·obtain⟨a,ha,rfl⟩:=Dt.mp (DT hz);(obtain⟨x,_,zq2⟩:=Dt.mp ha;clear ha hz;subst zq2);have:=hf k y' x;have c:((2^p:Nat):Int)=(2:Int)^p:=Fw 2 p;exact⟨DO _,c▸Int.le_sub_one_of_lt (C2.mpr this)⟩
theorem acJ(h:xe d):dW H .get (.gd 4) [.int d]=.ok (.str (br d)) H:=by rcases h with rfl |rfl |rfl<;>rfl
theorem aoF(D:uD w h d p)(hk:k<4):∃nm i,lZ[k]?=some (.bytes nm)/\(ac1 w h d p)[k]?=some (.int i)/\tM i/\i.natAbs<10^18/\nm.length<=8/\((fH w h d p).take (k+1+1))=(fH w h d p).take (k+1)++[nm++[32]++bf i]:=by
 have sw:=tM.of (dB ⟨D.ww.1,by have:=D.ww;exact fy this⟩);have sh:=tM.of (dB ⟨D.hh.1,by have:=D.hh;exact fy this⟩);have sd:=tM.of (dB D.dd.le);have sm:=tM.of (kR D.pp.2);have dl:=D.dd.le;have dw:=D.ww;have dh:=D.hh;rcases k with _ |_ |_ |_ |k
 ·exact(dS _ _ rfl rfl sw (Nat.lt_of_le_of_lt dw.2 (by decide)) (bE (by decide) rfl))
 ·exact(dS _ _ rfl rfl sh (Nat.lt_of_le_of_lt dh.2 (by decide)) (bE (by decide) rfl))
 ·exact(dS _ _ rfl rfl sd (Nat.lt_of_le_of_lt dl.2 (by decide)) (bE (by decide) rfl))
 ·exact(dS _ _ rfl rfl sm (acL D.pp.2) (bE (by decide) rfl))
 ·exact(rM hk).elim
theorem aqV(g:tL lo H v (br d) p (bJ f w h d))(D:uD w h d p)(hf:∀k y x,f k y x<2^p):
  W (CE (af (n+3)) (fi 7 jg) ([v]++CK 5 .undef) H) (λfl H1=>∃x0 a4 a5 r,fl=.next [v,x0,.int d,.ref r,a4,a5]/\H1[r]?=some (.list ((fH w h d p++jb d).map .bytes))/\Fr H.length H.length H H1) bC:=by
 have dl:=D.dd.le;have pc:=adK (n:=n) g;obtain⟨q,rfl,gq⟩:=g;obtain⟨pl,g⟩:=gq.seen;obtain⟨r0,e0⟩:=mo g (ac6 dl)
 cases pc with
 |xA e x=>exact CI (ah9 D hf) x.2.2
 |of e x=>
  (revert x;refine r_aa λzq0 zq1 Z=>?_;subst zq0;obtain⟨l,rfl⟩:=zq1);have g1:(H++l)[q]?=some (.list pl):=aH g.list;have ll:=gf g1;rw[g.len] at ll;have em:run (n+3) 40 [.inst 1 [.str (br d),.int p,.ref q]] (H++l++[.list [.bytes aq]])=.ok (.int (2^p-1)) (H++l++[.list [.bytes aq]]):=dQ rfl rfl (Sr (cR (aK (Xo (ay (Xv rfl rfl) rfl)) (ab9 (by have:=D.pp;exact Nat.le_trans this.2 (by decide))))))
  show W (CE (af (n+3)) (fi 7 jg) [.inst 1 [.str (br d),.int p,.ref q],.undef,.undef,.undef,.undef,.undef] H) _ _;refine aG (eU (aK (Xo (Xv rfl rfl)) e) rfl) (aG (dE rfl (cq (ad (aR (ay (Xv rfl rfl) rfl) Xi (ci g1 e0)) (Xo (aM rfl (Xo (ay (Xv rfl rfl) rfl)) ll)))) rfl) (fQ (aw (cS rfl Xg rfl (Xo (Xv rfl rfl)) (acJ D.dd)) (ay (Xv rfl rfl) rfl) m6) (aG (aD (bB (Xo Xy) (by decide))) (aG (aD (bB (ad (ay (Xv rfl rfl) rfl) (ad (ay (Xv rfl rfl) rfl) (ad (Xv rfl rfl) (Xo (afg (Xv rfl rfl) rfl em))))) (show 4<=al by decide)))
   (dj rfl (aM rfl (Xo (aM rfl (Xo Xg) rfl)) (eO (k:=4) (by decide))) (λk ρ Hc=>(∃a5,ρ=[.inst 1 [.str (br d),.int p,.ref q],.inst 0 [.int w,.int h,.ref r0],.int d,.ref (H++l).length,.ref (H++l++[AO.list [.bytes aq]]).length,a5])/\Hc[(H++l).length]?=some (.list (((fH w h d p).take (k+1)).map .bytes))/\Hc[(H++l++[AO.list [.bytes aq]]).length]?=some (.list (ac1 w h d p))/\Fr H.length H.length H Hc) 4 (Nat.le_refl 4) (bY ⟨_,rfl⟩ (aH aC) aC ?_) (λk ρ Hc Gq Nq hk i uF kq=>?_) (λρ Hc i=>rfl) λρ Hc i=>?_)))))
  ·rw[List.append_assoc,List.append_assoc];exact .app (Nat.le_refl _)
  ·(revert i;refine r_aaa λzq0 h1 h2 fr=>?_;obtain⟨a5,rfl⟩:=zq0);refine o_eeaaaa (aoF D hk) λnm i q1 q2 q3 q4=>r_a λq5 q6=>?_;have sl:=q3.len;have lr:(H++l).length≠(H++l++[AO.list [.bytes aq]]).length:=by rw[List.length_append (as:=H++l)];exact CP (DU _)
   refine(kq (.int k) _ (by rw[show(AV.uP 0 ((4:Nat):Int) 1)=.uP 0 ((4:Nat):Int) 1 from rfl,cr,CG hk]) rfl (aG (eU (cS rfl (Xv rfl rfl) (iD h1) (Xo (am (am (aR Xg (Xv rfl rfl) (aiE q1 (akL hk))) Xy (eB (by show _+1<_;exact Nat.lt_of_le_of_lt (EE q5) (by decide)))) (ap6 q3 q4 (aR (Xv rfl rfl) (Xv rfl rfl) (ci h2 q2))) (eB (by rw[List.length_append];show _+1+_<_;exact Nat.lt_of_le_of_lt (C7 (EE q5) sl) (by decide))))) (iE h1 ?_)) rfl) (bA (uF _ _ (bY ⟨_,rfl⟩ ?_ ?_ ?_)))))
   ·rw[List.length_map,Dg];unfold al;exact Nat.lt_of_le_of_lt (Nat.le_trans (F9 ..) hk) (by decide)
   ·rw[iY (cD h1),q6,Dr];rfl
   ·exact(DH lr).trans h2
   ·exact fr.trans (.put (.inr (by rw[List.length_append];exact Nat.le_add_right _ _)))
  ·(revert i;refine r_aaa λzq0 h1 h2 fr=>?_;obtain⟨a5,rfl⟩:=zq0);have kl:=(rj D.dd).2;have ea:=jS (H:=Hc++[.list ((jb d).map .bytes)]) (aH h1) aC (by rw[List.length_map,Dg,List.length_map];show min _ 5+3<_;exact Nat.lt_of_sub_eq_succ rfl);rw[show(fH w h d p).take (4+1)=fH w h d p from rfl,<-Dr] at ea;refine aG (aD (am (Xv rfl rfl) (bB (ad (am Xy (aR Xg (Xv rfl rfl) (ri D.dd)) (eB (by show 9+_<_;exact Nat.lt_of_le_of_lt (CY kl 9) (by decide)))) (ad Xy (ad Xy aj))) (show 3<=al by decide)) ea)) (bA (ef _ _ _ _ rfl aC ?_));rw[List.append_assoc];exact fr.trans (.app fr.le)
end
def Tw(w h d p:Nat):List (Bs×Bs):= [([10],aW),([32],bf w),([10],aV),([32],bf h),([10],aZ),([32],bf d),([10],aU),([32],bf (2^p-1)),([10],bX),([32],dU d),([10],aQ)]
theorem ahU:wO [10]:=(qW (x:= [10]) (by decide) (by decide)).1
theorem ahV:wO [32]:=(qW (x:= [32]) (by decide) (by decide)).1
section
theorem qm(D:uD w h d p):Good (cB w h d p true) w h d p:=by have:=adS (t:=true) (k:=0) D (by decide);unfold fB at this;rw[HW,Ef,Dk] at this;exact this
theorem aqo(D:uD w h d p):Text (Tw w h d p) (cB w h d p true):=⟨rfl,λt ht=>by unfold Tw at ht;simp only[CR,DE,DG] at ht;rcases ht with rfl |rfl |rfl |rfl |rfl |rfl |rfl |rfl |rfl |rfl |rfl<;>first |exact ahU |exact ahV,(qm D).names,by have:=(qm D).len;exact(Nat.lt_of_le_of_lt this (by decide))⟩
theorem aiQ:ct [10] (fH w h d p++jb d)=aq++ak (Tw w h d p) [10]:=by have j:∀x y r,ct [10] (x::y::r)=x++[10]++ct [10] (y::r):=λ_ _ _=>rfl;have j1:∀x,ct [10] [x]=x:=λ_=>rfl;have f0:∀r,ak [] r=r:=λ_=>rfl;delta fH jb Tw bX;simp only[GX,Lb,Dk,j,j1,ahD,f0,List.append_assoc]
theorem agc:∀{l:List Bs},uB (l.map AV.bytes)=some l:=by
 intro zi
 induction zi with
 |nil=>
 exact rfl
 |cons x l ih=>
 exact by
  show(some x).bind (λx=>(uB (l.map AV.bytes)).map (x::·))=_;rw[ih];rfl
theorem aiR{r:Nat}{l:List Bs}(h1:H[r]?=some (.list (l.map .bytes)))(h2:2<=l.length)(h3:(ct [10] l).length<=al):dW H .join (.bytes [10]) [.ref r]=.ok (.bytes (ct [10] l)) H:=by show aJ R.bad (az H r) (λxs=>aJ R.bad (uB xs) λbs=>au R.bad (2<=bs.length) (jB (ct [10] bs) H))=_;rw[bq h1];show aJ R.bad (uB (l.map .bytes)) (λbs=>au R.bad (2<=bs.length) (jB (ct [10] bs) H))=_;rw[agc];exact(CG h2).trans (CG h3)
theorem ajc(D:uD w h d p):ba (Tw w h d p)<=1000:=by have sw:=(tM.of (dB ⟨D.ww.1,by have:=D.ww;exact fy this⟩)).len;have sh:=(tM.of (dB ⟨D.hh.1,by have:=D.hh;exact fy this⟩)).len;have sd:=(tM.of (dB D.dd.le)).len;have sm:=(tM.of (kR D.pp.2)).len;have kd:=(rj D.dd).2;have f0:ba []=0:=rfl;delta Tw aW aV aZ aU bX aQ;simp only[aja,f0,Dc,K5];exact Nat.le_trans (CY (C7 (CY sw _) (CY (C7 (CY sh _) (CY (C7 (CY sd _) (CY (C7 (CY sm _) (CY (Eg (CY kd _) _) _)) _)) _)) _)) _) (by decide)
theorem lP(D:uD w h d p):(av f w h d).length<=36:=by rw[fZ];exact Er (Er D.hh.2 D.ww.2) D.dd.le.2
theorem ab3(D:uD w h d p):0<(av f w h d).length:=by rw[fZ];exact Hk (Hk D.hh.1 D.ww.1) D.dd.le.1
theorem kb(hf:∀k y x,f k y x<2^p):∀x∈av f w h d,x<2^p:=λx hx=>by(obtain⟨i,_,zq2⟩:=Dt.mp hx;clear hx;subst zq2);exact hf _ _ _
def lC(f:Nat->Nat->Nat->Nat)(w h d p:Nat):Bs:=aq++ak (Tw w h d p) (10::(aE (ah p) (av f w h d)++[]))
theorem af8:lC f w h d p=ct [10] (fH w h d p++jb d)++aE (ah p) (av f w h d):=by unfold lC;rw[aiQ,iL,iL (r:= [10]),Dk];simp only[List.append_assoc,GX,Lb]
theorem aaO(D:uD w h d p):(lC f w h d p).length<10000:=by unfold lC;rw[iT,Dk];have:=ajc D;have:=lP (f:=f) D;have:=jo (p:=p) (fl:=av f w h d);exact Nat.lt_of_le_of_lt (C7 (Eg (CY (by assumption) 2) 1) (Nat.le_trans this (Eb 2 (by assumption)))) (by decide)
theorem akc:∀{fl:List Nat},(∀x∈fl,x<65536)->cO (fl.map λx:Nat=>(x:Int))=aE 2 fl:=by
 intro zi
 induction zi with
 |nil=>
 exact @λZ=>rfl
 |cons x fl ihq=>
 exact @λhx=>by
  have ih:=ihq λy hy=>hx y (Dm _ hy);have h1:ma (x:Int)=fo 2 x:=by unfold ma fo;rw[CJ (by decide),GQ _ (by decide),GR _ (by decide)];rfl
  show ma (x:Int)++cO (fl.map λx:Nat=>(x:Int))=_;rw[ih,h1];rfl
theorem ahd:∀{fl:List Nat},((fl.map λx:Nat=>(x:Int)).map λn=>CT n.toNat)=aE 1 fl:=by
 intro zi
 induction zi with
 |nil=>
 exact rfl
 |cons x fl ih=>
 exact by
  rw[jn,<-ih];rfl
theorem akf{r:Nat}(hr:H[r]?=some (.list (aA fl)))(hp:p<=8)(hx:∀x∈fl,x<256):run (n+1) 10 [.ref r,.int p] H=.ok (.bytes (aE 1 fl)) H:=by
 have e:cT H .bytes [.ref r]=.ok (.bytes (aE 1 fl)) H:=by
  show aJ R.bad (az H r) (λxs=>aJ R.bad (u3 xs) λns=>au R.bad ((ns.all λn=>decide (0<=n)&&decide (n<256))=true) (R.ok (AV.bytes (ns.map λn=>CT n.toNat)) H))=_;rw[bq hr];show aJ R.bad (u3 (aA fl)) (λns=>au R.bad ((ns.all λn=>decide (0<=n)&&decide (n<256))=true) (R.ok (AV.bytes (ns.map λn=>CT n.toNat)) H))=_;rw[acf];have h1:((fl.map λx:Nat=>(x:Int)).all λn=>decide (0<=n)&&decide (n<256))=true:=by rw[IV,CV];intro x zU;have:=hx x zU;show(decide (0<=(x:Int))&&decide ((x:Int)<256))=true;rw[C5 (akM this),C5 (IR.mp this)];rfl
  have h2:=ahd (fl:=fl);exact(CG h1).trans (by rw[h2])
 refine dQ rfl rfl ?_;show CE (af n) qk [.ref r,.int p,.undef,.undef] H=_;exact Sr (d8 (aw (Xv rfl rfl) Xi (eY (C5 (FA rfl rfl hp)))) (Sr (cR (aM rfl (Xo (Xv rfl rfl)) e))))
theorem aq1(g:tL lo H v (br d) p (bJ f w h d))(hl:0<lo)(D:uD w h d p)(hf:∀k y x,f k y x<2^p):
  ∃H',Wr (n+4) v H (lC f w h d p) H'/\Fr H.length H.length H H':=by
 have dl:=D.dd.le;(refine o_eeaeee ((aqV (n:=n) g D hf).ok) λfl H1 e1 x0 a4 a5=>r_eaa λr zq7 g1 f1=>?_;subst zq7);obtain⟨q,rfl,gq⟩:=g;have gq1:tE lo H1 q (bJ f w h d):=gq.fr (f1.any (Nat.le_refl _)) hl;have wr5:(fH w h d p++jb d).length=8:=rfl;have lw:=aaO (f:=f) D;rw[af8] at lw⊢;have lj:(ct [10] (fH w h d p++jb d)).length<=al:=by rw[List.length_append] at lw;unfold al;exact Nat.le_trans (Nat.le_add_right ..) (Nat.le_trans (CN lw) (by decide))
 have ej:=aiR (H:=H1) g1 (by rw[wr5];decide) lj;have e8:=apq (n:=n+2) gq1 dl.1 (by have:=D.ww;exact gT this) (by have:=D.hh;exact gT this) (Nat.le_trans dl.2 (by decide));have ea:uc (af (n+3)) mN 4 [.inst 1 [.str (br d),.int p,.ref q],x0,.int d,.ref r,a4,a5] H1=.ok [.ref H1.length,.int p] (H1++[.list (aA (av f w h d))]):=ad (aK (Xo (ay (Xv rfl rfl) rfl)) e8) (Xo (ay (Xv rfl rfl) rfl))
 have ejo:ev (af (n+3)) nP 4 [.inst 1 [.str (br d),.int p,.ref q],x0,.int d,.ref r,a4,a5] H1=.ok (.bytes (ct [10] (fH w h d p++jb d))) H1:=cS rfl Xy rfl (Xo (Xv rfl rfl)) ej
 by_cases hp:p<=8
 ·have sz:ah p=1:=CG hp;rw[sz] at lw⊢;refine(ae (H1++[.list (aA (av f w h d))]) (.inl (dQ (np:=1) (nv:=6) (bd:=jg) rfl rfl (qN 7 e1 ?_))) (f1.trans (.app f1.le)));have pw:2^p<=256:=Ga (n:=2) (by decide) hp;have Ad:=akf (n:=n+2) (H:=H1++[.list (aA (av f w h d))]) aC hp λx hx=>Nat.lt_of_lt_of_le (kb hf x hx) pw;show CE (af (n+3)) (.cons (.ret (.bin .add nP (.call 10 mN))) .nil) _ H1=_;exact Sr (cR (am ejo (aK ea Ad) (eB (by rw[<-List.length_append];exact CM lw (by decide)))))
 ·have sz:ah p=2:=CJ hp;rw[sz] at lw⊢;have pw:2^p<=65536:=Ga (n:=2) (by decide) D.pp.2;have ox:=akc (fl:=av f w h d) λx hx=>Nat.lt_of_lt_of_le (kb hf x hx) pw;refine(ae (H1++[.list (aA (av f w h d))]++[.un (aE 2 (av f w h d))]) (.inr (ae (n+2) rfl ⟨_,H1,_,H1.length,p,(av f w h d).map (λx:Nat=>(x:Int)),_,e1,ejo,ea,?_,by exact adb hp,λz hz=>?_,?_,by rw[ox],by unfold al;exact akO lw,by rw[ox]⟩)) ?_)
  ·rw[bq aC];unfold aA;rw(occs:=.all) [FZ];rfl
  ·(obtain⟨x,hx,zq2⟩:=Dt.mp hz;clear hz;subst zq2);have:=kb hf x hx;exact akP pw this
  ·have:=lP (f:=f) D;rw[List.length_map];unfold al;exact Nat.le_trans (DW 2 this) (by decide)
  ·rw[List.append_assoc];exact f1.trans (.app f1.le)
end
def lc:List (Bs×List Bs):= [(aW,[[48],[54,53,53,51,54],[57,57,57,57,57,57,57,57,57]]),(aV,[[48],[54,53,53,51,54],[55,48,48,48,48]]),(aZ,[[48],[50],[53]]),(aU,[[48],[49],[49,51,49,48,55,49],[50],[54],[50,53,52],[54,53,53,51,52]])]
theorem aeT:(lc.all λx=>x.2.all λv=>bS v&&iS v&&decide (v.length<=9))=true:=by decide
noncomputable def oP(x:Int):Bool:= !(decide (1<=x)&&decide (x<=65535))
theorem aq0:([[48],[54,53,53,51,54],[57,57,57,57,57,57,57,57,57]].all λv:Bs=>oP (dec v))=true:=by decide
theorem aqX:([[48],[54,53,53,51,54],[55,48,48,48,48]].all λv:Bs=>oP (dec v))=true:=by decide
theorem aqW:([[48],[50],[53]].all λv:Bs=>decide (dec v∈[(0:Int),2,5]))=true:=by decide
theorem aqY:([[48],[49],[49,51,49,48,55,49],[50],[54],[50,53,52],[54,53,53,51,52]].all λv:Bs=>decide (dec v∈[(0:Int),1,131071,2,6,254,65534]))=true:=by decide
noncomputable def gE(nm v:Bs)(x:Bs×Bs):Bs×Bs:=(x.1,if x.1==nm then v else x.2)
section
variable {v:Bs}{vs:List Bs}
theorem agr(g:Good ws w h d p)(hv:bS v=true):gQ (ws.map (gE nm v)) []:=by
 refine acT ?_ (λx hx=>?_) (λZ Z=>rfl) (by rw[List.length_map];have:=g.len;show 0+_<=_;exact ac5 this)
 ·rw[FZ];exact g.pw
 ·(obtain⟨y,hy,zq2⟩:=Dt.mp hx;clear hx;subst zq2);refine⟨(g.y7 y hy).1,?_⟩;show bS (if y.1==nm then v else y.2)=true
  split
  ·exact hv
  ·exact(g.y7 y hy).2.1
theorem m5{k u:Bs}(h:(k,u)∈ws):(k,if k==nm then v else u)∈ws.map (gE nm v):=Dt.mpr (ae (k,u) h rfl)
theorem aqZ(g:Good ws w h d p)(D:uD w h d p)(hx:(nm,vs)∈lc)(hv:v∈vs)(x:Text T (ws.map (gE nm v)))(hc:eQ c)(ho:(aq++ak T (c::rest)).length<100000):
  ∃H',run (n+4) 17 [.bytes (aq++ak T (c::rest))] H=.exc 2 H'/\Fr H.length H.length H H':=by
 have z0:=CV.mp (CV.mp aeT _ hx) v hv;rw[Bool.and_eq_true,Bool.and_eq_true,C3] at z0;have sw:=tM.of (dB ⟨D.ww.1,by have:=D.ww;exact fy this⟩);have sh:=tM.of (dB ⟨D.hh.1,by have:=D.hh;exact fy this⟩);have sd:=tM.of (dB D.dd.le);have sm:=tM.of (kR D.pp.2);have dd:∀(k:Bs)(u:Bs),iS u=true/\u.length<=9->iS (if k==nm then v else u)=true/\(if k==nm then v else u).length<=9:=λk u hu=>by
  split
  ·exact⟨z0.1.2,z0.2⟩
  ·exact hu
 have t:=aeI x.names (m5 g.mw) (m5 g.mh) (m5 g.md) (m5 g.mm) (by
  intro u hu;simp only[CR,DE,DG] at hu;rcases hu with rfl |rfl |rfl |rfl
  ·exact dd _ _ ⟨sw.dig,sw.len⟩
  ·exact dd _ _ ⟨sh.dig,sh.len⟩
  ·exact dd _ _ ⟨sd.dig,sd.len⟩
  ·exact dd _ _ ⟨sm.dig,sm.len⟩)
 have kk:∀u,cN (ws.map (gE nm v)) bX=some u->nm≠bX->u=dU d:=λu hu hn=>by
  obtain⟨y,hy,e⟩:=Dt.mp (acz hu);obtain⟨a,b⟩:=y;have e1:a=bX:=CH Prod.fst e;have e2:(if a==nm then v else b)=u:=CH Prod.snd e
  rw[e1,CJ (λq=>hn (eq_of_beq q).symm)] at e2;rw[<-e2];exact g.kk b (e1▸hy)
 have dw:=D.ww;have dh:=D.hh;have side:∀{x:Int},oP x=true->(decide (1<=x)&&decide (x<=65535))=false:=λ{x} q=>by unfold oP at q;rw[Ft] at q;exact q
 have okw:(decide (1<=(w:Int))&&decide ((w:Int)<=65535))=true:=by rw[C5 (oh dw),C5 (ade dw)];rfl
 have okh:(decide (1<=(h:Int))&&decide ((h:Int)<=65535))=true:=by rw[C5 (oh dh),C5 (ade dh)];rfl
 unfold lc at hx;simp only[CR,DE,DG,Ir] at hx;clear dd;rcases hx with⟨rfl,rfl⟩ |⟨rfl,rfl⟩ |⟨rfl,rfl⟩ |⟨rfl,rfl⟩
 ·have b:=side (CV.mp aq0 v hv);exact nV x t hc ho (.inl (by rw[show dec (if aW==aW then v else bf w)=dec v from rfl,b,HI]))
 ·have b:=side (CV.mp aqX v hv);exact nV x t hc ho (.inl (by rw[show dec (if aV==aV then v else bf h)=dec v from rfl,b,HG]))
 ·have b:=Do (CV.mp aqW v hv);refine nV x t hc ho (.inr ⟨?_,.inl b⟩);rw(occs:=.all) [show dec (if aW==aZ then v else bf w)=dec (bf w) from rfl,show dec (if aV==aZ then v else bf h)=dec (bf h) from rfl,sw.dec,sh.dec,okw,okh];rfl
 ·have b:=Do (CV.mp aqY v hv);refine nV x t hc ho (.inr ⟨?_,.inr (cY d ?_ D.dd (λu hu=>kk u hu (by decide)) b)⟩)
  ·rw(occs:=.all) [show dec (if aW==aU then v else bf w)=dec (bf w) from rfl,show dec (if aV==aU then v else bf h)=dec (bf h) from rfl,sw.dec,sh.dec,okw,okh];rfl
  ·exact sd.dec
theorem ahg:∀{j:Nat},(aE (ah p) fl).take (ah p*j)=aE (ah p) (fl.take j):=by
 induction fl with
 |nil=>intro j;rw(occs:=.all) [GA];exact GA
 |cons x fl ih=>
  intro j
  cases j with
  |zero=>rw[Ip,Ef,Ef];rfl
  |succ j=>rw[Hf,jn,jn,Io,Lh,j9,EB (by rw[j9];exact EM _ _),GC,ih]
theorem ahf:∀{j:Nat},(aE (ah p) fl).drop (ah p*j)=aE (ah p) (fl.drop j):=by
 induction fl with
 |nil=>intro j;rw(occs:=.all) [Jc];exact Jc
 |cons x fl ih=>
  intro j
  cases j with
  |zero=>rw[Ip,HW,HW]
  |succ j=>rw[List.drop_succ_cons,jn,Io,List.drop_append,j9,List.drop_of_length_le (by rw[j9];exact EM _ _),GC,ih];rfl
end
section
noncomputable def wl(nm:Bs)(r:Nat):AV:=.tup [.bytes nm,.ref r]
noncomputable def wv(vs:List Bs):AO:=.list (vs.map .bytes)
noncomputable def vW:List Bs:= [[48],[54,53,53,51,54],[57,57,57,57,57,57,57,57,57]]
noncomputable def vH:List Bs:= [[48],[54,53,53,51,54],[55,48,48,48,48]]
noncomputable def vD:List Bs:= [[48],[50],[53]]
noncomputable def vM:List Bs:= [[48],[49],[49,51,49,48,55,49],[50],[54],[50,53,52],[54,53,53,51,52]]
theorem aoa{r4:Nat}{L3:List AV}(g:H[r4]?=some (.list L3))(hl:L3.length<=10)(A4:ρ[3]?=some (.ref r4)):ev (af n) (.bin .add (.var 3) (.list (.cons (.tup (.cons (.s9 [77,65,88,86,65,76]) (.cons (.list (.cons (.s9 [48]) (.cons (.s9 [49]) (.cons (.s9 [49,51,49,48,55,49]) (.cons (.s9 [50]) (.cons (.s9 [54]) (.cons (.s9 [50,53,52]) (.cons (.s9 [54,53,53,51,52]) .nil)))))))) .nil))) .nil))) 4 ρ H
   =.ok (.ref (H.length+2)) (H++[wv vM]++[.list [wl aU H.length]]++[.list (L3++[wl aU H.length])]):=by
 have e:=jS (H:=H++[wv vM]++[.list [wl aU H.length]]) (aH (aH g)) aC (by show _+1<_;exact Nat.lt_of_le_of_lt (EE hl) (by decide));rw[show(H++[wv vM]++[AO.list [wl aU H.length]]).length=H.length+2 by rw[List.length_append,List.length_append];rfl] at e;exact am (Xv A4 rfl) (bB (Xo (cq (ad Xy (Xo (bB (ad Xy (ad Xy (ad Xy (ad Xy (ad Xy (ad Xy (ad Xy aj))))))) (by decide)))))) (show 1<=al by decide)) e
theorem aob(hb:Bk b H):∃a3 nm vs v r H',CE (af (n+1)) (fi 3 ly) ([.ref b,a1,a2]++CK 12 .undef) H=.ok (.next [.ref b,a1,a2,a3,.bytes nm,.ref r,.bytes v,.undef,.undef,.undef,.undef,.undef,.undef,.undef,.undef]) H'/\(nm,vs)∈lc/\v∈vs/\Fr b H.length H H'/\Bk b H':=by
 have bl:=hb.lt;have e1:ev (af (n+1)) (.list (.cons (.tup (.cons (.s9 [87,73,68,84,72]) (.cons (.list (.cons (.s9 [48]) (.cons (.s9 [54,53,53,51,54]) (.cons (.s9 [57,57,57,57,57,57,57,57,57]) .nil)))) .nil))) (.cons (.tup (.cons (.s9 [72,69,73,71,72,84]) (.cons (.list (.cons (.s9 [48]) (.cons (.s9 [54,53,53,51,54]) (.cons (.s9 [55,48,48,48,48]) .nil)))) .nil))) (.cons (.tup (.cons (.s9 [68,69,80,84,72]) (.cons (.list (.cons (.s9 [48]) (.cons (.s9 [50]) (.cons (.s9 [53]) .nil)))) .nil))) .nil)))) 4 ([.ref b,a1,a2]++CK 12 .undef) H
   =.ok (.ref (H++[wv vW]++[wv vH]++[wv vD]).length) (H++[wv vW]++[wv vH]++[wv vD]++[.list [wl aW H.length,wl aV (H++[wv vW]).length,wl aZ (H++[wv vW]++[wv vH]).length]]):=
  bB (ad (cq (ad Xy (Xo (bB (ad Xy (ad Xy (ad Xy aj))) (by decide))))) (ad (cq (ad Xy (Xo (bB (ad Xy (ad Xy (ad Xy aj))) (by decide))))) (ad (cq (ad Xy (Xo (bB (ad Xy (ad Xy (ad Xy aj))) (by decide))))) aj))) (show 3<=al by decide)
 (revert e1;refine cX (H++[wv vW]++[wv vH]++[wv vD]) λH3 h3 e1=>?_);have q1:H3[H.length]?=some (wv vW):=by rw[<-h3];exact aH (aH aC)
 have q2:H3[(H++[wv vW]).length]?=some (wv vH):=by rw[<-h3];exact aH aC
 have q3:H3[(H++[wv vW]++[wv vH]).length]?=some (wv vD):=by rw[<-h3];exact aC
 have f3:Fr b H.length H H3:=by rw[<-h3,List.append_assoc,List.append_assoc];exact .app (Nat.le_refl _)
 have b3:Bk b H3:=by rw[<-h3];exact hb.app.app.app
 (revert e1 q2;refine gn ((H++[wv vW]).length) λr2 e1 q2=>?_);(revert e1 q3;refine gn ((H++[wv vW]++[wv vH]).length) λr3 q3 e1=>?_);have g4:(H3++[AO.list [wl aW H.length,wl aV r2,wl aZ r3]])[H3.length]?=some (.list [wl aW H.length,wl aV r2,wl aZ r3]):=aC;have q1:=aH (l:= [.list [wl aW H.length,wl aV r2,wl aZ r3]]) q1;have q2:=aH (l:= [.list [wl aW H.length,wl aV r2,wl aZ r3]]) q2;have q3:=aH (l:= [.list [wl aW H.length,wl aV r2,wl aZ r3]]) q3;have f4:=f3.trans (.app f3.le (l:= [.list [wl aW H.length,wl aV r2,wl aZ r3]]));have b4:=b3.app (l:= [.list [wl aW H.length,wl aV r2,wl aZ r3]]);(revert e1 g4 q1 q2 q3 f4 b4;refine gn (H3++[AO.list [wl aW H.length,wl aV r2,wl aZ r3]]) λH4 e1 g4 q1 q2 q3 f4 b4=>?_);(revert e1 g4;refine gn H3.length λr4 e1 g4=>?_);have e2:=aoa (n:=n+1) (ρ:= [.ref b,a1,a2,.ref r4,.undef,.undef,.undef,.undef,.undef,.undef,.undef,.undef,.undef,.undef,.undef]) g4 (show 3<=10 by decide) rfl;have p1:=aH (l:= [wv vM]++[.list [wl aU H4.length]]++[.list ([wl aW H.length,wl aV r2,wl aZ r3]++[wl aU H4.length])]) q1;have p2:=aH (l:= [wv vM]++[.list [wl aU H4.length]]++[.list ([wl aW H.length,wl aV r2,wl aZ r3]++[wl aU H4.length])]) q2;have p3:=aH (l:= [wv vM]++[.list [wl aU H4.length]]++[.list ([wl aW H.length,wl aV r2,wl aZ r3]++[wl aU H4.length])]) q3;rw[<-List.append_assoc,<-List.append_assoc] at p1 p2 p3;have p4:(H4++[wv vM]++[AO.list [wl aU H4.length]]++[AO.list ([wl aW H.length,wl aV r2,wl aZ r3]++[wl aU H4.length])])[H4.length]?=some (wv vM):=aH (aH aC);have p5:(H4++[wv vM]++[AO.list [wl aU H4.length]]++[AO.list ([wl aW H.length,wl aV r2,wl aZ r3]++[wl aU H4.length])])[H4.length+2]?=some (.list ([wl aW H.length,wl aV r2,wl aZ r3]++[wl aU H4.length])):=by have:=aC (H:=H4++[wv vM]++[AO.list [wl aU H4.length]]) (o:=AO.list ([wl aW H.length,wl aV r2,wl aZ r3]++[wl aU H4.length]));rw[List.length_append (as:=H4++[wv vM]),List.length_append] at this;exact this
 have f5:=f4.trans (.app f4.le (l:= [wv vM]++[.list [wl aU H4.length]]++[.list ([wl aW H.length,wl aV r2,wl aZ r3]++[wl aU H4.length])]));rw[<-List.append_assoc,<-List.append_assoc] at f5;have b5:=(b4.app (l:= [wv vM])).app (l:= [.list [wl aU H4.length]]) |>.app (l:= [.list ([wl aW H.length,wl aV r2,wl aZ r3]++[wl aU H4.length])]);have c4:=f4.le;have s1:=cD q1;have s2:=cD q2;have s3:=cD q3;(revert e2 p1 p2 p3 p4 p5 f5 b5;refine gn (H4++[wv vM]++[AO.list [wl aU H4.length]]++[AO.list ([wl aW H.length,wl aV r2,wl aZ r3]++[wl aU H4.length])]) λH5 e2 p1 p2 p3 p4 p5 f5 b5=>?_);obtain⟨k,H6,hk,e6,f6,b6⟩:=dp (n:=n) b5 (top:=4) (by decide) (by decide);have pick:∃nm vs r,(nm,vs)∈lc/\([wl aW H.length,wl aV r2,wl aZ r3]++[wl aU H4.length])[k]?=some (wl nm r)/\H5[r]?=some (wv vs)/\r≠b/\0<vs.length/\vs.length<100:=by
  clear e6;rcases k with _ |_ |_ |_ |k
  ·exact(ce _ vW _ (by decide) rfl p1 (bT (Dn (CP bl)) (by decide) (by decide)))
  ·refine(ce _ vH _ (by decide) rfl p2 (bT (λq=>?_) (by decide) (by decide)));obtain⟨s,t,h⟩:=b5;rw[q,h] at p2;cases p2
  ·refine(ce _ vD _ (by decide) rfl p3 (bT (λq=>?_) (by decide) (by decide)));obtain⟨s,t,h⟩:=b5;rw[q,h] at p3;cases p3
  ·exact(ce _ vM _ (by decide) rfl p4 (bT (CW (CM bl s1)) (by decide) (by decide)))
  ·exact(rM hk).elim
 (revert pick;refine r_eeeaaa λnm vs r hm hi hr=>r_aa λwY A0 ze=>?_);have p6:=f6.get (akR bl s1) p5;have r6:=f6.get wY hr;have lr:=gf r6;rw[List.length_map] at lr;obtain⟨j,H7,hj,e7,f7,b7⟩:=dp (n:=n) b6 (top:=vs.length) A0 (CM ze (by decide));have r7:=f7.get wY r6;have ij:(vs.map AV.bytes)[j]?=some (.bytes (vs[j]'hj)):=by rw[C8,List.getElem?_eq_getElem hj];rfl
 refine(dT (.ref r4) nm vs _ r H7 (gM ?_ hm (FX hj) ((f5.trans (f6.less f5.le)).trans (f7.less (Nat.le_trans f5.le f6.le))) b7));exact Sc (aD e1) (Sc (dE rfl (aR e2 (aK (ad (Xv rfl rfl) (ad Xi aj)) e6) (ci p6 hi)) rfl) (Sc (aD (aR (Xv rfl rfl) (aK (ad (Xv rfl rfl) (Xo (aM rfl (Xo (Xv rfl rfl)) lr))) e7) (ci r7 ij))) Sn))
end
def aa4(nm v:Bs)(x:AV):AV:=iu .none x λl=>match l with
 |[a,t]=>bI .none a λs=>bI .none t λu=>aY (gE nm v (s,u))
 |_=>.none
section
variable {wr:Nat}{v:Bs}{vs:List Bs}
theorem abf{x y:Bs}:bj H .eq (.bytes x) (.bytes y)=some (x==y):=rfl
theorem aiF{s u:Bs}(h1:ρ[13]?=some (.bytes s))(h2:ρ[4]?=some (.bytes nm))(h3:ρ[6]?=some (.bytes v))(h4:ρ[14]?=some (.bytes u)):ev (af n) (.u5 (.cmp (.var 13) .eq (.var 4)) (.var 6) (.var 14)) 3 ρ H=.ok (.bytes (if s==nm then v else u)) H:=by
 cases e:s==nm with
 |true=>exact jR (aw (Xv h1 rfl) (Xv h2 rfl) (abf.trans (CH some e))) (Xv h3 rfl)
 |false=>exact jQ (aw (Xv h1 rfl) (Xv h2 rfl) (abf.trans (CH some e))) (Xv h4 rfl)
theorem ajK{x:Bs}(h:0<x.length)(hl:x.length<1000):dc .mul (.bytes x) (.int 9) H=.ok (.bytes (CK 9 x).flatten) H:=by
 have:x.length*9<=al:=by unfold al;exact Nat.le_trans (Eb 9 (CN hl)) (by decide)
 exact CG (bY h this (by decide) (by decide))
theorem rB(g:Good ws w h d p):∀x∈ws,(x.1==aQ)=false:=λx hx=>nf (g.y7 x hx).1
theorem sM{zK:List (Bs×Bs)}(o:vR b H H' zK T c sp)(hn:gQ zK [])(hl:zK.length<=5):Text T zK:=⟨o.words,o.wE,hn,by exact(Nat.lt_of_le_of_lt hl (by decide))⟩
theorem aeR:∀{ws:List (Bs×Bs)},(jN ws).length=2*ws.length+1:=by
 intro zi
 induction zi with
 |nil=>
 exact rfl
 |cons zp ws ih=>
 obtain⟨a,b⟩:=zp;exact by
  show(jN ws).length+1+1=_;rw[ih,Dc];exact Nat.add_left_inj.mpr rfl
theorem su{zK:List (Bs×Bs)}(o:vR b H H' zK T c sp)(hl:zK.length<=5):ba T<=396:=by have h1:=CH DI o.words;rw[List.length_map,aeR] at h1;have:=o.short;exact Nat.le_trans this (DW 36 (h1▸EE (DW 2 hl)):_<=36*11)
theorem qx:aq++ak T []++[c]++rest=aq++ak T (c::rest):=by rw[iL (r:=c::rest),List.append_assoc,List.append_assoc];rfl
theorem acb{x y:AV}:eJ H (.tup [x,y]) (.int 0)=some x:=rfl
theorem aou{x:Bs}:(CK 9 x).flatten.length=9*x.length:=by rw[List.length_flatten,K8];simp;exact akS
theorem rt(hf:∀k y x,f k y x<2^p)(hp:p<=16)(k y x:Nat):f k y x<256^ah p:=by
 have hb:2^p<=256^ah p:=by
  unfold ah
  split
  ·exact Ga (n:=2) (by decide) ‹p<=8›
  ·exact Ga (n:=2) (by decide) hp
 exact Nat.lt_of_lt_of_le (hf k y x) hb
theorem aqE(hb:Bk b H)(bl:b<lo)(hp:tL lo H ua (br d) p (bJ f w h d))(hw:H[wr]?=some (.list (ws.map aY)))(bw:b≠wr)(g:Good ws w h d p)(D:uD w h d p)(hf:∀k y x,f k y x<2^p)
  (hx:(nm,vs)∈lc) (hv:v∈vs) (k:∀a7 H',Fr b H.length H H'->Bk b H'->W (CE (af (n+5)) ss [.ref b,.ref wr,ua,a3,.bytes nm,a5,.bytes v,a7,.undef,.undef,.undef,.undef,.undef,.undef,.undef] H') Q E):
  W (CE (af (n+5)) (.cons (.assign (.var 7) (.idx (.call 24 (.cons (.var 0) (.cons (.comp (.tup (.cons (.var 13) (.cons (.u5 (.cmp (.var 13) .eq (.var 4)) (.var 6) (.var 14)) .nil))) [13,14] false (.var 1) .nil .nil) .nil))) (.s7 0))) (.cons (.ifs (.cmp (.call 26 (.cons (.bin .add (.var 7) (.bin .mul (.call 25 (.cons (.var 2) .nil)) (.s7 9))) .nil)) .ne (.tH "range")) (.cons (.ret (.ug false)) .nil) .nil) ss)) [.ref b,.ref wr,ua,a3,.bytes nm,a5,.bytes v,.undef,.undef,.undef,.undef,.undef,.undef,.undef,.undef] H) Q E:=by
 have bh:=hb.lt;have z0:=CV.mp (CV.mp aeT _ hx) v hv;rw[Bool.and_eq_true,Bool.and_eq_true,C3] at z0;have gl:=g.len;have xE:ev (af (n+5)) (.comp (.tup (.cons (.var 13) (.cons (.u5 (.cmp (.var 13) .eq (.var 4)) (.var 6) (.var 14)) .nil))) [13,14] false (.var 1) .nil .nil) 4 [.ref b,.ref wr,ua,a3,.bytes nm,a5,.bytes v,.undef,.undef,.undef,.undef,.undef,.undef,.undef,.undef] H=.ok (.ref H.length) (H++[.list ((ws.map aY).map (aa4 nm v))]):=by refine mI rfl (Xv rfl rfl) (λj=>cM hw) (by rw[eZ hw];exact Nat.le_refl _) (λx hx=>?_) (by rw[List.length_map];unfold al;exact akT gl);(obtain⟨zq0,_,zq2⟩:=Dt.mp hx;obtain⟨s,u⟩:=zq0;clear hx;subst zq2);exact(ae _ rfl (cq (ad (Xv rfl rfl) (Xo (aiF rfl rfl rfl rfl)))))
 rw[FZ,show(aa4 nm v∘aY)=λx=>aY (gE nm v x) from rfl,<-Function.comp_def,<-FZ] at xE;have BW:(ws.map (gE nm v)).length<=5:=by rw[List.length_map];exact gl
 have BZ:∀x∈ws.map (gE nm v),(x.1==aQ)=false:=λx hx=>by(obtain⟨y,hy,zq2⟩:=Dt.mp hx;clear hx;subst zq2);exact rB g y hy
 have hlen:∀x∈ws.map (gE nm v),x.1.length<=20/\x.2.length<=20:=λx hx=>by
  (obtain⟨y,hy,zq2⟩:=Dt.mp hx;clear hx;subst zq2);have y1:=g.y7 y hy;have y2:=qR y1.1;refine⟨by show y.1.length<=20;exact(Nat.le_trans y2 (by decide)),?_⟩;show(if y.1==nm then v else y.2).length<=20
  split<;>omega
 obtain⟨T,c,sp,H1,e1,o1⟩:=qZ (n:=n+2) (hb.app (l:= [.list ((ws.map (gE nm v)).map aY)])) aC (CP bh) BZ hlen (Nat.le_trans BW (by decide));have f1:Fr b H.length H H1:=(Fr.app (Nat.le_refl _)).trans (o1.fr.less (by rw[List.length_append];exact Nat.le_add_right _ _));have yS:=hp.fr f1 bl;have es:=si (n:=n+4) yS D.dd.le.1 (by have:=D.ww;exact gT this) (by have:=D.hh;exact gT this) (by have:=D.dd.le;exact Nat.le_trans this.2 (by decide)) (λk y x Z Z Z=>rt hf D.pp.2 k y x);have l1:=su o1 BW;have l2:=lP (f:=f) D;have l3:=jo (p:=p) (fl:=av f w h d);have l4:0<(aE (ah p) (av f w h d)).length:=by rw[jp];exact Hk (ab3 D) (by unfold ah;split<;>decide)
 have l5:=aou (x:=aE (ah p) (av f w h d));have l6:(aq++ak T []++[c]).length=2+ba T+1:=by rw[List.length_append,List.length_append,im];rfl
 have ho:(aq++ak T (c::(CK 9 (aE (ah p) (av f w h d))).flatten)).length<100000:=by rw[iT];exact l5▸Nat.lt_of_le_of_lt (C7 (Eg (CY l1 2) 1) (DW 9 (Nat.le_trans l3 (Eb 2 l2)))) (by decide)
 obtain⟨H2,e2,f2⟩:=aqZ (n:=n) (H:=H1) g D hx hv (sM o1 (agr g z0.1.1) BW) o1.stop ho
 have Cp:run (n+5) 26 [.bytes (aq++ak T []++[c]++(CK 9 (aE (ah p) (av f w h d))).flatten)] H1=.ok (.str "range") H2:=by rw[qx];exact kI e2 (by decide)
 (revert hp;refine r_ea λq zq1 Z=>?_;clear yS;subst zq1);have Ac:=o1.bk.lt;refine aG (aD (aR (aK (ad (Xv rfl rfl) (Xo xE)) e1) Xi acb)) (fQ (aw (aK (Xo (am (Xv rfl rfl) (am (aK (Xo (Xv rfl rfl)) es) Xi (ajK l4 (Nat.lt_of_le_of_lt (Nat.le_trans l3 (Eb 2 l2)) (by decide)))) (eB (Nat.lt_of_le_of_lt (C7 (Nat.le_trans (CZ l6) (Eg (CY l1 2) 1)) (Nat.le_trans (CZ l5) (DW 9 (Nat.le_trans l3 (Eb 2 l2))))) (by decide))))) Cp) Xs m6) (k _ H2 (f1.trans ((f2.less f1.le).any f1.le)) (o1.bk.fr f2 Ac (CP Ac))))
end
section
variable {wr:Nat}
theorem aok(h:k<=1000):dc .pow (.int 256) (.int k) H=.ok (.int (256^k)) H:=by show au R.bad (0<=(k:Int)/\(k:Int)<=1000/\(256:Int).natAbs<cI) _=_;unfold au;rw[CG ⟨by exact rN h,by exact(FA rfl rfl h),by decide⟩,DQ]
theorem ajA:bj H .isin (.int p) (.tup [.int 8,.int 16])=some ((8==(p:Int))||((16==(p:Int))||false)):=rfl
theorem ahA(hs:0<s)(h2:s<1000):dc .fdiv (.int ((N*s:Nat))) (.int s) H=.ok (.int N) H:=by rw[o8 ⟨by exact(GS.mpr hs),by exact akU hs h2⟩,GQ _ (akV hs h2),<-Kx,Nat.mul_div_cancel _ hs]
theorem aqb:0<ah p/\ah p<=2:=by unfold ah;split<;>decide
theorem aec{x:Bs}(h:u<1000000000):dA H (.bytes x) [] [.int u] []=.ok (.bytes (x.take u)) H:=by have g:∀u:Int,cg u->dA H (.bytes x) [] [.int u] []=.ok (.bytes (x.take u.toNat)) H:=λu q=>CG q;exact g u (iK h)
theorem apC{x:Bs}(h:u<1000000000):dA H (.bytes x) [.int u] [] []=.ok (.bytes (x.drop u)) H:=by have g:∀u:Int,cg u->dA H (.bytes x) [.int u] [] []=.ok (.bytes (x.drop u.toNat)) H:=λu q=>CG q;exact g u (iK h)
theorem afO(hp:p<=16)(h8:p≠8)(Ak:p≠16):2^p<256^ah p/\2^p<=256^ah p-1:=by
 have:2^p<256^ah p:=by
  unfold ah
  split
  ·exact LN (by decide) (show p<8 by exact Ei (by assumption) h8)
  ·exact LN (by decide) (show p<16 by exact Ei hp Ak)
 exact⟨this,LB this⟩
theorem aqF{a6:AV}(hb:Bk b H)(bl:b<lo)(hp:tL lo H ua (br d) p (bJ f w h d))(hw:H[wr]?=some (.list (ws.map aY)))(bw:b≠wr)(g:Good ws w h d p)(D:uD w h d p)(hf:∀k y x,f k y x<2^p)
  (h8:p≠8) (Ak:p≠16):
  W (CE (af (n+5)) (fY 6 ly) [.ref b,.ref wr,ua,a3,a4,a5,a6,a7,.undef,.undef,.undef,.undef,.undef,.undef,.undef] H) (λfl H'=>fl=.ret (.bool true)/\Fr b H.length H H'/\Bk b H') bC:=by
 have bh:=hb.lt;have gl:=g.len;have sz:=aqb (p:=p);have hp0:=hp;obtain⟨q,rfl,_⟩:=hp;have es:=si (n:=n+4) hp0 D.dd.le.1 (by have:=D.ww;exact gT this) (by have:=D.hh;exact gT this) (by have:=D.dd.le;exact Nat.le_trans this.2 (by decide)) (λk y x Z Z Z=>rt hf D.pp.2 k y x);have fl0:=ab3 (f:=f) D;have yc:=lP (f:=f) D;have el:=jp (p:=p) (fl:=av f w h d);have ll:cT H .len [.bytes (aE (ah p) (av f w h d))]=.ok (.int (((av f w h d).length*ah p:Nat))) H:=by rw[<-el];exact EH
 obtain⟨j,H1,hj,e1,f1,b1⟩:=dp (n:=n+4) hb (top:=(av f w h d).length) fl0 (akW fl0 yc);have bl1:=b1.lt;obtain⟨Cl,zf⟩:=afO D.pp.2 h8 Ak;have c2:((2^p:Nat):Int)=(2:Int)^p:=Fw 2 p;have ash:((256^ah p:Nat):Int)=(256:Int)^ah p:=Fw 256 _;have cm:(256:Int)^ah p-1=((256^ah p-1:Nat):Int):=by have p0:0<256^ah p:=Hl (by decide);rw[<-ash];exact(Gu p0).symm
 obtain⟨k,H2,hk,e2,f2,b2⟩:=dp (n:=n+4) (b1.app (l:= [.list (aA [2^p,256^ah p-1])])) (top:=2) (by decide) (by decide);have l2:H2[H1.length]?=some (.list (aA [2^p,256^ah p-1])):=f2.get (Dn (CP bl1)) aC;obtain⟨y,yk,y1,y2⟩:∃y,(aA [2^p,256^ah p-1])[k]?=some (.int (y:Nat))/\2^p<=y/\y<256^ah p:=by
  clear e2;rcases k with _ |_ |k
  ·exact(aI _ rfl (Nat.le_refl _) Cl)
  ·exact(aI _ rfl zf (akX ash cm))
  ·exact(adf hk).elim
 have eL:ev (af (n+5)) (.list (.cons (.bin .pow (.s7 2) (.attr (.var 2) 4)) (.cons (.var 11) .nil))) 4 [.ref b,.ref wr,.inst 1 [.str (br d),.int p,.ref q],a3,a4,a5,a6,a7,.bytes (aE (ah p) (av f w h d)),.int (ah p),.int ((ah p*j:Nat)),.int ((256^ah p-1:Nat)),.undef,.undef,.undef] H1=.ok (.ref H1.length) (H1++[.list (aA [2^p,256^ah p-1])]):=by have e:=bB (Γ:=af (n+5)) (m:=4) (ρ:= [.ref b,.ref wr,.inst 1 [.str (br d),.int p,.ref q],a3,a4,a5,a6,a7,.bytes (aE (ah p) (av f w h d)),.int (ah p),.int ((ah p*j:Nat)),.int ((256^ah p-1:Nat)),.undef,.undef,.undef]) (H:=H1) (es:=.cons (.bin .pow (.s7 2) (.attr (.var 2) 4)) (.cons (.var 11) .nil)) (ad (am Xi (ay (Xv rfl rfl) rfl) (jG (p:=p) (by have:=D.pp;exact Nat.le_trans this.2 (by decide)))) (Xo (Xv rfl rfl))) (show 2<=al by decide);rw[<-c2] at e;exact e
 have yb:Fr b H.length H H2:=(f1.trans (.app f1.le)).trans (f2.less (by rw[List.length_append];exact Nat.le_trans f1.le (Nat.le_add_right _ _)));have BZ:=rB g;have hlen:∀x∈ws,x.1.length<=20/\x.2.length<=20:=λx hx=>by have y1:=g.y7 x hx;have y2:=qR y1.1;exact⟨Nat.le_trans y2 (by decide),Nat.le_trans y1.2.2 (by decide)⟩
 obtain⟨T,c,sp,H3,e3,o3⟩:=qZ (n:=n+2) b2 (yb.get bw.symm hw) bw BZ hlen (Nat.le_trans gl (by decide));have tl:=su o3 gl;have bl3:=o3.bk.lt;have et:=ahg (p:=p) (fl:=av f w h d) (j:=j);have ed:=ahf (p:=p) (fl:=av f w h d) (j:=j+1);have lf:((av f w h d).take j++y::(av f w h d).drop (j+1)).length=h*w*d:=by rw[List.length_append,Dc,Dg,Dd,<-fZ (f:=f) (w:=w) (h:=h) (d:=d)];exact akY hj
 have ec:aE (ah p) ((av f w h d).take j)++fo (ah p) y++aE (ah p) ((av f w h d).drop (j+1))=aE (ah p) ((av f w h d).take j++y::(av f w h d).drop (j+1)):=by rw[abJ,jn,List.append_assoc]
 have hx:∀x∈(av f w h d).take j++y::(av f w h d).drop (j+1),x<256^ah p:=λx hx=>by
  rcases DJ.mp hx with hx |hx
  ·exact CM (kb hf x (Ic hx)) Cl
  ·cases hx with
   |head=>exact y2
   |tail _ hx=>exact CM (kb hf x (List.mem_of_mem_drop hx)) Cl
 have le:=jo (p:=p) (fl:=(av f w h d).take j++y::(av f w h d).drop (j+1));have lf2:((av f w h d).take j++y::(av f w h d).drop (j+1)).length<=36:=by rw[lf,<-fZ (f:=f)];exact yc
 have ho:(aq++ak T (c::aE (ah p) ((av f w h d).take j++y::(av f w h d).drop (j+1)))).length<100000:=by rw[iT];exact Nat.lt_of_le_of_lt (C7 (Eg (CY tl 2) 1) (Nat.le_trans le (Eb 2 lf2))) (by decide)
 obtain⟨H4,e4,f4⟩:=ajs (n:=n) (H:=H3) (sM o3 g.names gl) (g.right D) o3.stop ho lf hx (Ji _ (Ds ..)) y1
 have Cp:run (n+5) 26 [.bytes (aq++ak T []++[c]++aE (ah p) ((av f w h d).take j)++fo (ah p) y++aE (ah p) ((av f w h d).drop (j+1)))] H3=.ok (.str "range") H4:=by rw[List.append_assoc _ (aE (ah p) ((av f w h d).take j)),List.append_assoc _ (aE (ah p) ((av f w h d).take j)++fo (ah p) y),ec,qx];exact kI e4 (by decide)
 have l6:(aq++ak T []++[c]).length=2+ba T+1:=by rw[List.length_append,List.length_append,im];rfl
 have t1:=jo (p:=p) (fl:=(av f w h d).take j);have t2:=jo (p:=p) (fl:=(av f w h d).drop (j+1));have t3:=abI (p:=p) (x:=y);rw[Dg] at t1;rw[Dd] at t2;have sj:ah p*j<=2*36:=Er sz.2 (Nat.le_trans (CN hj) yc);have s1:=aec (H:=H3) (x:=aE (ah p) (av f w h d)) (u:=ah p*j) (Nat.lt_of_le_of_lt sj (by decide));have s2:=apC (H:=H3) (x:=aE (ah p) (av f w h d)) (u:=ah p*(j+1)) (by rw[Io];exact Nat.lt_of_le_of_lt (C7 sj sz.2) (by decide));rw[et] at s1;rw[ed,Io,FT] at s2;show W (CE (af (n+5)) (.cons _ (.cons _ (.cons _ (.cons _ (.cons _ (.cons _ .nil)))))) _ H) _ _;refine aG (aD (aK (Xo (Xv rfl rfl)) es)) (aG (aD (ad8 (m:=br d) (q:=q) rfl)) (aG (aD (am (Xv rfl rfl) (aK (ad (Xv rfl rfl) (Xo (am (aM rfl (Xo (Xv rfl rfl)) ll) (Xv rfl rfl) (ahA sz.1 (akZ sz))))) e1) (fG (.inl (by rw[FR];unfold cI;exact ak0 sz))))) ?_));refine aG (aD (am (am Xi (Xv rfl rfl) (aok (k:=ah p) (ak1 sz))) Xi rfl)) ?_;rw[<-Gs,cm];refine aG (aD (cS rfl (aR eL (aK (ad (Xv rfl rfl) (Xo Xi)) e2) (ci l2 yk)) rfl (ad (Xv rfl rfl) (Xo Xs)) (aru (p:=p) y2))) ?_;have Ct:=Nat.le_trans t1 (Eb 2 (Nat.le_trans (DV ..) yc));have t2':=Nat.le_trans t2 (Eb 2 (Nat.le_trans (DK ..) yc));have Ch:=Nat.le_trans (CZ l6) (Eg (CY tl 2) 1);refine dF (aw (aK (Xo (am (am (am (aR (aK (ad (Xv rfl rfl) (Xo (Xv rfl rfl))) e3) Xi acb) (fT (Xv rfl rfl) aj (Xo (Xv rfl rfl)) aj s1) (eB (Nat.lt_of_le_of_lt (C7 Ch Ct) (by decide)))) (Xv rfl rfl) (eB (by rw[List.length_append];exact Nat.lt_of_le_of_lt (C7 (C7 Ch Ct) t3) (by decide)))) (fT (Xv rfl rfl) (Xo (am (Xv rfl rfl) (Xv rfl rfl) rfl)) aj aj s2) (eB (by rw[List.length_append,List.length_append];exact Nat.lt_of_le_of_lt (C7 (C7 (C7 Ch Ct) t3) t2') (by decide))))) Cp) Xs (r:=true) ?_) ⟨rfl,?_,?_⟩
 ·exact CH some (Du _)
 ·exact(yb.trans (o3.fr.less yb.le)).trans ((f4.less (Nat.le_trans yb.le o3.fr.le)).any (Nat.le_trans yb.le o3.fr.le))
 ·exact o3.bk.fr f4 bl3 (CP bl3)
end
section
variable {wr:Nat}
theorem aqG(hb:Bk b H)(bl:b<lo)(hp:tL lo H ua (br d) p (bJ f w h d))(hw:H[wr]?=some (.list (ws.map aY)))(bw:b≠wr)(g:Good ws w h d p)(D:uD w h d p)(hf:∀k y x,f k y x<2^p):
  ∃H',run (n+6) 28 [.ref b,.ref wr,ua] H=.ok (.bool true) H'/\Fr b H.length H H'/\Bk b H':=by
 refine o_eeeeee (aob (n:=n+4) (a1:=.ref wr) (a2:=ua) hb) λa3 nm vs v r H1=>r_aaaa λe1 hx hv f1 b1=>?_;have yS:=hp.fr f1 bl;have hw1:=f1.get bw.symm hw;have w0:=dG (n:=n+5) (k:=28) (np:=3) (nv:=15) (bd:=ly) (vs:= [.ref b,.ref wr,ua]) (H:=H) (Q:=λv H'=>v=.bool true/\Fr b H.length H H'/\Bk b H') (E:=bC) rfl rfl (by
  refine W.eq (qN 3 e1 rfl) ?_;show W (CE (af (n+5)) (.cons _ (.cons _ (.cons _ (fY 6 ly)))) _ H1) _ _;refine aqE b1 bl yS hw1 bw g D hf hx hv λa7 H2 f2 b2=>?_;have At:=yS.fr f2 bl;have Au:=f2.get bw.symm hw1;have yb:=f1.trans (f2.less f1.le);have hq:=At;(revert hq;refine r_ea λq zq1 Z=>?_;clear hp e1 yS;subst zq1);refine fj (aw (ay (Xv rfl rfl) rfl) (cq (ad Xi (Xo Xi))) ajA) (λe=>dF Xb ⟨rfl,yb,b2⟩) λe=>bA ?_;rw[Gn,ET,EF,EF] at e;refine(aqF b2 bl At Au bw g D hf (ak2 e) (ak3 e)).mono (λfl H3 q3=>?_) λZ Z x=>x;obtain⟨rfl,f3,b3⟩:=q3;exact⟨rfl,yb.trans (f3.less yb.le),b3⟩)
 obtain⟨v,H',e,rfl,x⟩:=w0.ok;exact(ae H' e x)
noncomputable def qy:PE:=.comp (.bi .list (.cons (.var 3) .nil)) [3] true (.attr (.var 2) 2) .nil .nil
theorem agJ{a0:AV}(g:tA lo H v D)(hr:D.rows.length<1000):W (ev (af n) qy 3 [a0,a1,v,a3,a4] H) (λu H'=>∃hk,u=.ref hk/\tC H.length H' hk D.rows/\∃l,H'=H++l) bC:=by
 (revert g;refine r_ea λr zq1 zq2=>?_;subst zq1;obtain⟨_,ps,g1,g2,g3⟩:=zq2);unfold qy;refine iA rfl (ay (Xv rfl rfl) rfl) (λj acc Hc=>acc.length=j/\(∀(y:Nat)(xs:List Int),y<j->D.rows[y]?=some xs->∃pp:Nat,acc[y]?=some (AV.ref pp)/\H.length<=pp/\Hc[pp]?=some (row xs))/\∃l,Hc=H++l) D.rows.length ?_ (iO rfl (λy xs h=>CI h (DX _)) [] ((Dk _).symm)) (λj acc Hc hj i=>?_) (λacc Hc i=>?_) λacc Hc i=>?_
 ·rw[eZ g1,g2];exact Nat.le_refl _
 ·obtain⟨hl,ha,l,rfl⟩:=i;obtain⟨xs,hx⟩:∃xs,D.rows[j]?=some xs:=⟨_,List.getElem?_eq_getElem hj⟩;obtain⟨rp,q1,_,q2⟩:=g3 j xs hx;refine(ax (.ref rp) _ ((cM (aH g1)).trans (CH some q1)) rfl (.of (aM rfl (Xo (Xv rfl rfl)) (acv (aH q2))) (iO (by rw[List.length_append,hl];rfl) (λy ys hy Aw=>?_) (l++[row xs]) (by rw[List.append_assoc];rfl))))
  by_cases c:y=j
  ·clear hj ha q1 hy;subst c;obtain rfl:=C0 (hx.symm.trans Aw);exact(aI _ (by rw[<-hl];exact FV) (by rw[List.length_append];exact Nat.le_add_right _ _) aC)
  ·obtain⟨pp,e1,e2,e3⟩:=ha y ys (Ei (Eh hy) c) Aw;exact(aI pp ((D6 (hl▸Ei (Eh hy) c)).trans e1) e2 (aH e3))
 ·(revert i;refine r_aae λhl ha l zq3=>?_;clear ha;subst zq3);rw[cM (aH g1),Dq (CZ g2)]
 ·obtain⟨hl,ha,l,rfl⟩:=i;refine(air (by unfold al;exact rO hr g2 hl) _ rfl ⟨by rw[List.length_append];exact Nat.le_add_right _ _,acc,aC,hl,λy xs hy=>?_⟩ (l++[.list acc]) (by rw[List.append_assoc]));obtain⟨pp,e1,e2,e3⟩:=ha y xs (List.getElem?_eq_some_iff.mp hy).1 hy;exact(aI pp e1 e2 (aH e3))
theorem aii(g:tE lo H q P)(hP:P.length<1000)(hr:∀D∈P,D.rows.length<1000):
  W (ev (af n) (.comp qy [2] true (.attr (.var 0) 5) .nil .nil) 4 [.inst 1 [.str m,.int p,.ref q],a1,a2,a3,a4] H) (λu H'=>∃hq hs,u=.ref hq/\H'[hq]?=some (.list hs)/\hs.length=P.length/\(∀(k:Nat)(D:PD),P[k]?=some D->∃hk:Nat,hs[k]?=some (AV.ref hk)/\tC H.length H' hk D.rows)/\H.length<=hq/\∃l,H'=H++l) bC:=by
 have g0:=g;obtain⟨_,pl,g1,g2,g3⟩:=g;refine iA rfl (ay (Xv rfl rfl) rfl) (λj acc Hc=>acc.length=j/\(∀(k:Nat)(D:PD),k<j->P[k]?=some D->∃hk:Nat,acc[k]?=some (AV.ref hk)/\tC H.length Hc hk D.rows)/\∃l,Hc=H++l) P.length ?_ (iO rfl (λy xs h=>CI h (DX _)) [] ((Dk _).symm)) (λj acc Hc hj i=>?_) (λacc Hc i=>?_) λacc Hc i=>?_
 ·rw[eZ g1,g2];exact Nat.le_refl _
 ·obtain⟨hl,ha,l,rfl⟩:=i;obtain⟨D,hD⟩:∃D,P[j]?=some D:=⟨_,List.getElem?_eq_getElem hj⟩;obtain⟨v,q1,q2⟩:=g3 j D hD;refine(ax v _ ((cM (aH g1)).trans (CH some q1)) rfl ((agJ (q2.app (l:=l)) (hr D (DT hD))).mono (λu H' x=>?_) λZ Z x=>x));(revert x;refine r_eaae λhk zq1 ra l' zq4=>?_;subst zq1;subst zq4);refine(iO (by rw[List.length_append,hl];rfl) (λk E wS hE=>?_) (l++l') (by rw[List.append_assoc]))
  by_cases c:k=j
  ·clear hj ha q1 wS;subst c;obtain rfl:=C0 (hD.symm.trans hE);exact(ae hk (by rw[<-hl];exact FV) (ra.u9 (by rw[List.length_append];exact Nat.le_add_right _ _)))
  ·obtain⟨zC,e1,e2⟩:=ha k E (Ei (Eh wS) c) hE;exact(ae zC ((D6 (hl▸Ei (Eh wS) c)).trans e1) e2.app)
 ·(revert i;refine r_aae λhl ha l zq3=>?_;clear ha;subst zq3);rw[cM (aH g1),Dq (CZ g2)]
 ·obtain⟨hl,ha,l,rfl⟩:=i;refine(eH (by unfold al;exact rO hP g2 hl) _ acc rfl aC hl (iO (λk D hD=>?_) (by rw[List.length_append];exact Nat.le_add_right _ _) (l++[.list acc]) (by rw[List.append_assoc])));obtain⟨hk,e1,e2⟩:=ha k D (List.getElem?_eq_some_iff.mp hD).1 hD;exact(ae hk e1 e2.app)
def sf(v:AV):AV:=(lv v 2).getD .none
theorem aos(g:tL lo H ua m p P)(yQ:0<lo)(hP:P.length<1000)(hr:∀D∈P,D.rows.length<1000)(hw:∀H1,tL lo H1 ua m p P->∃H2,run n 18 [ua] H1=.exc 2 H2/\Fr H1.length H1.length H1 H2):
  ∃H',run (n+1) 29 [ua] H=.ok (.bool true) H'/\Fr H.length H.length H H':=by
 have g0:=g;obtain⟨q,rfl,gq⟩:=g;have xQ:0<H.length:=Nat.lt_of_le_of_lt (DY _) (cD gq.ex.choose_spec.1);(refine o_eeaeea ((aii (n:=n) (m:=m) (p:=p) (a1:=.undef) (a2:=.undef) (a3:=.undef) (a4:=.undef) gq hP hr).ok) λu H1 e1 hq hs zq5=>r_aaaae λk1 k2 k3 k4 l zq11=>?_;subst zq5;subst zq11);obtain⟨H2,e2,f2⟩:=hw _ (g0.app (l:=l));have fz:=f2.any (b:=0) (Nat.le_refl _);have g2:=gq.app (l:=l) |>.fr fz yQ;have A6:H2[hq]?=some (.list hs):=fz.get (CW (Nat.lt_of_lt_of_le xQ k4)) k1;obtain⟨_,pl,j1,j2,j3⟩:=g2;have e3:ev {af n with C:=λZ Z Z=>.bad,hd:=true} (.comp (.attr (.var 4) 2) [4] true (.attr (.var 0) 5) .nil .nil) 4 [.inst 1 [.str m,.int p,.ref q],.ref hq,.undef,.undef,.undef] H2=.ok (.ref H2.length) (H2++[.list (pl.map sf)]):=by refine mI rfl (ay (Xv rfl rfl) rfl) (λj=>cM j1) (by rw[eZ j1];exact Nat.le_refl _) (λv hv=>?_) (by unfold al;exact rO hP k2 j2);obtain⟨k,hk⟩:=Je hv;obtain⟨D,hD⟩:∃D,P[k]?=some D:=⟨_,List.getElem?_eq_getElem (by rw[<-j2];exact(List.getElem?_eq_some_iff.mp hk).1)⟩;obtain⟨v',i1,i2⟩:=j3 k D hD;have ev:=C0 (hk.symm.trans i1);obtain⟨r,er,_⟩:=i2;clear hv hk;obtain rfl:=ev.trans er;exact(ae _ rfl (ay (Xv rfl rfl) rfl))
 have e4:de (H2++[.list (pl.map sf)]) 4 (.ref H2.length) (.ref hq)=some true:=by
  refine qK aC (aH A6) (by rw[List.length_map,j2,k2]) λi x y hx hy=>?_;have hi:i<P.length:=by rw[<-k2];exact(List.getElem?_eq_some_iff.mp hy).1
  obtain⟨v,i1,r,rfl,i2⟩:=j3 i _ (List.getElem?_eq_getElem hi);rw[C8,i1] at hx;obtain rfl:=C0 hx;obtain⟨hk,i3,i4⟩:=k3 i _ (List.getElem?_eq_getElem hi);obtain rfl:=C0 (hy.symm.trans i3);exact abQ (n:=0) i2.app (i4.fr fz xQ).app
 refine(ae (H2++[.list (pl.map sf)]) (dQ (np:=1) (nv:=5) (bd:=pX) rfl rfl ?_) ?_)
 ·show CE (af n) pX [.inst 1 [.str m,.int p,.ref q],.undef,.undef,.undef,.undef] H=_;exact Sc (aD e1) (Sr (aaj rfl (aK (Xo (Xv rfl rfl)) e2) ((mE (by decide)).trans (Sr (cR (aw e3 (Xv rfl rfl) (abg e4)))))))
 ·have fa:Fr H.length H.length H (H++l):=.app (Nat.le_refl _);exact(fa.trans ((f2.less fa.le).any fa.le)).trans (.app (Nat.le_trans fa.le f2.le))
end
section
def fM(m:Str)(p:Nat)(P:List PD):Prop:=¬vX m p P\/(xe P.length/\br P.length≠m)
theorem aqU(g:tL lo H ua m p P)(hb:fM m p P):∃H',run (n+4) 18 [ua] H=.exc 2 H'/\Fr H.length H.length H H':=by
 have pc:=adK (n:=n) g;(revert g;refine r_ea λq zq1 zq2=>?_;subst zq1;obtain⟨_,pl,g1,g2,g3⟩:=zq2)
 cases pc with
 |xA e x=>(revert x;refine r_aa λzq0 zq1 Z=>?_;subst zq0;obtain⟨l,rfl⟩:=zq1);exact(ae _ (gv rfl rfl (Se (by rw[E5.expr];exact X2 (aK (Xo (Xv rfl rfl)) e)))) (.app (Nat.le_refl _)))
 |of e x=>
  (revert x;refine r_aa λzq0 zq1 gp=>?_;subst zq0;obtain⟨l,rfl⟩:=zq1);rcases hb with hb |⟨hd,hm⟩
  ·exact CI gp hb
  ·obtain⟨D0,An⟩:∃D0,P[0]?=some D0:=⟨_,List.getElem?_eq_getElem (Ia.mpr gp.ne)⟩;obtain⟨x0,i1,r0,rfl,i2⟩:=g3 0 D0 An;have h1:(H++l)[q]?=some (.list pl):=aH g1;have ll:=gf h1;rw[g2] at ll;have e2:bj (H++l) .ne (.str (br P.length)) (.str m)=some true:=by
    rw[abh,EG hm];rfl
   exact(ae _ (gv (nv:=6) (bd:=jg) rfl rfl (Sc (eU (aK (Xo (Xv rfl rfl)) e) rfl) (Sc (dE rfl (cq (ad (aR (ay (Xv rfl rfl) rfl) Xi (ci (d:=0) h1 i1)) (Xo (aM rfl (Xo (ay (Xv rfl rfl) rfl)) ll)))) rfl) (Se (d8 (aw (cS rfl Xg rfl (Xo (Xv rfl rfl)) (acJ hd)) (ay (Xv rfl rfl) rfl) e2) (Se (fO rfl))))))) (.app (Nat.le_refl _)))
noncomputable def dR(z:Int)(w h:Nat):PD:=⟨w,h,CK h (CK w z)⟩
theorem acM(h0:0<w)(h1:w<1000):dc .mul (.ref H.length) (.int w) (H++[.list [.int z]])=.ok (.ref (H++[AO.list [.int z]]).length) (H++[.list [.int z]]++[row (CK w z)]):=by
 have e:(CK (w:Int).toNat [AV.int z]).flatten=(CK w z).map AV.int:=by rw[DQ,K8,List.flatten_replicate_singleton]
 show aJ R.bad (az (H++[.list [.int z]]) H.length) (λxs=>au R.bad (0<(w:Int)/\(w:Int)<1000/\xs.length<1000) (cn (CK (w:Int).toNat xs).flatten (H++[.list [.int z]])))=_;rw[bq aC];show au R.bad (0<(w:Int)/\(w:Int)<1000/\1<1000) (cn (CK (w:Int).toNat [AV.int z]).flatten (H++[.list [.int z]]))=_;unfold au;rw[CG ⟨by exact(GS.mpr h0),by exact(IR.mp h1),by decide⟩,e];unfold cn;rw[CG (by rw[List.length_map,D9];unfold al;exact ak4 h0 h1)];rfl
theorem abu{t:Nat}(hi:ev (af n) it 4 ρ H=.ok (.uP 0 h 1) H)(h0:0<w)(h1:w<1000)(h2:h<1000)
  (he:∀(j:Nat)(Hc:AH),ev (af n) elt 3 (ρ.set t (.int j)) Hc=.ok (.ref (Hc.length+1)) (Hc++[.list [.int z]]++[row (CK w z)])):
  ∃r l,ev (af n) (.comp elt [t] true it .nil .nil) 4 ρ H=.ok (.ref r) (H++l)/\tC H.length (H++l) r (CK h (CK w z)):=by
 have w0:W (ev (af n) (.comp elt [t] true it .nil .nil) 4 ρ H) (λv H'=>∃r l,v=.ref r/\H'=H++l/\tC H.length (H++l) r (CK h (CK w z))) bC:=by
  refine iA rfl hi (λj acc Hc=>acc.length=j/\(∀y:Nat,y<j->∃pp:Nat,acc[y]?=some (AV.ref pp)/\H.length<=pp/\Hc[pp]?=some (row (CK w z)))/\∃l,Hc=H++l) h ?_ (iO rfl (λy h=>CI h (DX _)) [] ((Dk _).symm)) (λj acc Hc hj i=>?_) (λacc Hc i=>by rw[cr,CJ (CS _)]) λacc Hc i=>?_
  ·show h<=((h:Int)-0).toNat;exact ak5 h2
  ·obtain⟨hl,ha,l,rfl⟩:=i;refine(ax (.int j) _ (by rw[cr,CG hj]) rfl (.of (he j _) (iO (by rw[List.length_append,hl];rfl) (λy hy=>?_) (l++[.list [.int z]]++[row (CK w z)]) (by simp only[List.append_assoc]))))
   by_cases c:y=j
   ·clear hj ha hy;subst c;refine(aI ((H++l).length+1) (by rw[<-hl];exact FV) (by rw[List.length_append];exact ak6) ?_);have:=aC (H:=H++l++[AO.list [.int z]]) (o:=row (CK w z));rw[List.length_append] at this;exact this
   ·obtain⟨pp,e1,e2,e3⟩:=ha y (Ei (Eh hy) c);exact(aI pp ((D6 (hl▸Ei (Eh hy) c)).trans e1) e2 (aH (aH e3)))
  ·obtain⟨hl,ha,l,rfl⟩:=i;refine(jw (by unfold al;exact adg h2 hl) _ (l++[.list acc]) rfl (by rw[List.append_assoc]) ?_);rw[<-List.append_assoc];refine⟨by rw[List.length_append];exact Nat.le_add_right _ _,acc,aC,by rw[hl,D9],λy xs hy=>?_⟩;have hy2:y<h:=by have:=(List.getElem?_eq_some_iff.mp hy).1;rwa [D9] at this
   rw[HZ,CG hy2] at hy;obtain rfl:=C0 hy;obtain⟨pp,e1,e2,e3⟩:=ha y hy2;exact(aI pp e1 e2 (aH e3))
 (refine o_eeaeea w0.ok λv H' e r l zq5=>r_a λzq6 x=>?_;subst zq5;subst zq6);exact(bR r l e x)
theorem mj(h0:0<w)(h1:w<1000)(h2:h<1000):∃v l,run (n+1) 41 [.int w,.int h] H=.ok v (H++l)/\tA H.length (H++l) v (dR 1 w h):=by
 refine o_eea (abu (n:=n) (H:=H) (t:=2) (ρ:= [.int w,.int h,.undef]) (it:=.bi .range (.cons (.var 1) .nil)) (elt:=.bin .mul (.list (.cons (.s7 1) .nil)) (.var 0)) (aM rfl (Xo (Xv rfl rfl)) (eO (ak7 h2))) h0 h1 h2 (λj Hc=>by have e:=acM (H:=Hc) (z:=1) h0 h1;rw[List.length_append (as:=Hc)] at e;exact am (bB (Xo Xi) (show 1<=al by decide)) (Xv rfl rfl) e)) λr l e x=>?_
 exact(aiw _ l (dQ (np:=2) (nv:=3) (bd:=ig) rfl rfl (Sr (cR (je rfl (ad (Xv rfl rfl) (ad (Xv rfl rfl) (Xo e))) rfl)))) r rfl x)
end
structure yz(lo:Nat)(H:AH)(v:AV):Prop where
 ex:∃(m:Str)(p:Nat)(P:List PD),tL lo H v m p P/\fM m p P/\P.length<1000/\∀D∈P,D.rows.length<1000
structure uj(lo:Nat)(H:AH)(q N:Nat):Prop where
 lo_le:lo<=q
 ex:∃vs,H[q]?=some (.list vs)/\vs.length=N/\∀v∈vs,yz lo H v
section
variable {M:Nat}{es:ub}
theorem yz.app(g:yz lo H v):yz lo (H++l) v:=by obtain⟨m,p,P,a,c⟩:=g;exact⟨m,p,P,a.app,c⟩
theorem yz.fr(g:yz lo H v)(f:Fr b H.length H H1)(hb:b<lo):yz lo H1 v:=by obtain⟨m,p,P,a,c⟩:=g;exact⟨m,p,P,a.fr f hb,c⟩
theorem uj.fr(g:uj lo H q N)(f:Fr b H.length H H1)(hb:b<lo):uj lo H1 q N:=by obtain⟨a,vs,c,d,k⟩:=g;exact⟨a,vs,f.get (CW (Nat.lt_of_lt_of_le hb a)) c,d,λv hv=>(k v hv).fr f hb⟩
def t9(n lo:Nat)(ρ:aB)(es:ub)(N:Nat):Prop:=∀H:AH,lo<=H.length->∃vs l,uc (af (n+1)) es 4 ρ H=.ok vs (H++l)/\vs.length=N/\∀v∈vs,yz lo (H++l) v
def po(n lo:Nat)(ρ:aB)(e:PE):Prop:=∀H:AH,lo<=H.length->∃v l,ev (af (n+1)) e 4 ρ H=.ok v (H++l)/\yz lo (H++l) v
theorem t9.nil:t9 n lo ρ .nil 0:=λH Z=>(ax [] [] (by rw[Dk];exact aj) rfl (λv hv=>(by cases hv)))
theorem t9.cons(a:po n lo ρ e)(c:t9 n lo ρ es N):t9 n lo ρ (.cons e es) (N+1):=λH hl=>by
 obtain⟨v,l,e1,b1⟩:=a H hl;obtain⟨vs,l2,e2,h2,b2⟩:=c (H++l) (by rw[List.length_append];exact FC hl);refine(ax (v::vs) (l++l2) (by rw[<-List.append_assoc];exact ad e1 e2) (by rw[Dc,h2]) (λu hu=>?_));rw[<-List.append_assoc]
 cases hu with
 |head=>exact b1.app
 |tail _ hu=>exact b2 u hu
theorem acw(a:t9 n lo ρ es N)(hN:N<1000)(hl:lo<=H.length):∃q l,ev (af (n+1)) (.list es) 4 ρ H=.ok (.ref q) (H++l)/\uj lo (H++l) q N:=by obtain⟨vs,l,e1,h1,b1⟩:=a H hl;refine(bR ((H++l).length) (l++[.list vs]) (by rw[<-List.append_assoc];exact bB e1 (by unfold al;exact adg hN h1)) ?_);rw[<-List.append_assoc];exact⟨by rw[List.length_append];exact(FC hl),vs,aC,h1,λv hv=>(b1 v hv).app⟩
theorem uj.app(g:uj lo H q N):uj lo (H++l) q N:=by obtain⟨a,vs,c,d,k⟩:=g;exact⟨a,vs,aH c,d,λv hv=>(k v hv).app⟩
theorem pz(g:uj lo H q N)(hq:ρ[4]?=some (.ref q))(a:t9 n lo ρ es M)(hN:N<1000)(hM:M<1000)(hl:lo<=H.length):∃q' l,ev (af (n+1)) (.bin .add (.var 4) (.list es)) 4 ρ H=.ok (.ref q') (H++l)/\uj lo (H++l) q' (N+M):=by
 obtain⟨r,l,e1,g2⟩:=acw a hM hl;obtain⟨_,vs,c1,d1,k1⟩:=g.app (l:=l);obtain⟨_,us,c2,d2,k2⟩:=g2;refine(bR ((H++l).length) (l++[.list (vs++us)]) (by rw[<-List.append_assoc];exact am (Xv hq rfl) e1 (jS c1 c2 (d1▸d2▸CM (Nat.add_lt_add hN hM) (by decide)))) ?_);rw[<-List.append_assoc];refine⟨by rw[List.length_append];exact(FC hl),vs++us,aC,by rw[List.length_append,d1,d2],λv hv=>?_⟩;rcases DJ.mp hv with hv |hv
 ·exact(k1 v hv).app
 ·exact(k2 v hv).app
structure Rh(ρ:aB)(w h p:Nat):Prop where
 p:ρ[2]?=some (.int p)
 f:ρ[3]?=some (.fn 41)
 h:ρ[7]?=some (.int h)
 w:ρ[8]?=some (.int w)
theorem lu(g:Rh ρ w h p)(e:run n 41 [.int w,.int h] H=t):ev (af n) (.tB 3 [8,7]) k ρ H=t:=by
 rw[E1.tB];rw[g.f];dsimp only;have:([8,7].mapM λj=>ρ[j]?)=some [.int w,.int h]:=by rw[Gx,Gx,g.w,g.h];rfl
 rw[this];exact(CG ⟨rfl,rfl⟩).trans e
noncomputable def rY:Nat->ub
 |0=>.nil
 |k+1=>.cons (.tB 3 [8,7]) (rY k)
theorem adG(g:Rh ρ w h p)(h0:0<w)(h1:w<1000)(h2:h<1000):∀(k:Nat)(H:AH),∃vs l,uc (af (n+1)) (rY k) 4 ρ H=.ok vs (H++l)/\vs.length=k/\∀x∈vs,tA H.length (H++l) x (dR 1 w h)
 |0,H=>(ax [] [] (by rw[Dk];exact aj) rfl (λx hx=>(by cases hx)))
 |k+1,H=>by
  obtain⟨v,l,e,a⟩:=mj (n:=n) (H:=H) h0 h1 h2;obtain⟨vs,l2,e2,d,c⟩:=adG g h0 h1 h2 k (H++l);refine(ax (v::vs) (l++l2) (by rw[<-List.append_assoc];exact ad (lu g e) e2) (by rw[Dc,d]) (λx hx=>?_));rw[<-List.append_assoc]
  cases hx with
  |head=>exact a.app
  |tail _ hx=>exact(c x hx).u9 (by rw[List.length_append];exact Nat.le_add_right _ _)
theorem oA{p':Nat}(e1:uc (af (n+1)) es 4 ρ H=.ok vs H1)(hl:lo<=H1.length)(Cc:ev (af (n+1)) pe 4 ρ H=.ok (.int p') H)(hv:vs.length=P.length)(hP:P.length<1000)(a:∀(k:Nat)(D:PD),P[k]?=some D->∃v,vs[k]?=some v/\tA lo H1 v D)(hb:fM m p' P)(hr:∀D∈P,D.rows.length<1000):
  ∃v,ev (af (n+1)) (.new 1 (.cons (.tH m) (.cons pe (.cons (.list es) .nil)))) 4 ρ H=.ok v (H1++[.list vs])/\yz lo (H1++[.list vs]) v:=by
 refine(ae _ (je rfl (ad Xs (ad Cc (Xo (bB e1 (by unfold al;exact hv▸Nat.le_trans (CN hP) (by decide)))))) rfl) ⟨m,p',P,(ae H1.length rfl ⟨hl,vs,aC,hv,λk D hD=>?_⟩),hb,hP,hr⟩);obtain⟨v,i1,i2⟩:=a k D hD;exact(ae v i1 i2.app)
theorem iV{p':Nat}(g:Rh ρ w h p)(h0:0<w)(h1:w<1000)(h2:h<1000)(Cc:∀H:AH,ev (af (n+1)) pe 4 ρ H=.ok (.int p') H)(hk:k<1000)(hb:fM m p' (CK k (dR 1 w h))):po n lo ρ (.new 1 (.cons (.tH m) (.cons pe (.cons (.list (rY k)) .nil)))):=λH hl=>by
 obtain⟨vs,l,e1,d1,c1⟩:=adG (n:=n) g h0 h1 h2 k H;refine o_ea (oA (lo:=lo) (pe:=pe) (m:=m) (p':=p') (P:=CK k (dR 1 w h)) e1 (by rw[List.length_append];exact FC hl) (Cc H) (by rw[d1,D9]) (by rw[D9];exact hk) (λi D hD=>by
  have hi:i<k:=by have:=(List.getElem?_eq_some_iff.mp hD).1;rwa [D9] at this
  rw[HZ,CG hi] at hD;obtain rfl:=C0 hD;exact(ae _ (List.getElem?_eq_getElem (GF hi (id (Fv d1)))) ((c1 _ (FX (GF hi (id (Fv d1))))).u9 hl))) hb (λD hD=>by
  obtain rfl:=List.eq_of_mem_replicate hD;show(CK h (CK w (1:Int))).length<1000;rw[D9];exact h2)) λv e2 b2=>?_
 exact(bR v (l++[.list vs]) (by rw[<-List.append_assoc];exact e2) (by rw[<-List.append_assoc];exact b2))
theorem tC.put{r y:Nat}{R:List (List Int)}{xs xs':List Int}(g:tC lo H r R)(h1:H[r]?=some (.list ps))(h2:ps[y]?=some (.ref rp))(h3:H[rp]?=some (row xs)):∃R',tC lo (H.set rp (row xs')) r R'/\R'.length=R.length/\R'[y]?=some xs':=by
 obtain⟨g0,yX,a1,a2,a3⟩:=g;rw[h1] at a1;cases a1;have nr:=ac0 h1 h2 h3;refine(aI ((CL R.length).map λk=>kA [] (ps[k]?.getD .none) λpp=>if pp=rp then xs' else R[k]?.getD []) ⟨g0,ps,(DH nr.symm).trans h1,by rw[List.length_map,DC];exact a2,λk zs hk=>?_⟩ (by rw[List.length_map,DC]) ?_)
 ·have zC:k<R.length:=by have:=(List.getElem?_eq_some_iff.mp hk).1;rwa [List.length_map,DC] at this
  obtain⟨pp,i1,i2,i3⟩:=a3 k _ (List.getElem?_eq_getElem zC);rw[C8,EL zC] at hk;obtain rfl:=C0 hk;refine(aI pp i1 i2 ?_);show(H.set rp (row xs'))[pp]?=some (row (kA [] (ps[k]?.getD .none) λpp=>if pp=rp then xs' else R[k]?.getD []))
  rw[i1,Fo];show(H.set rp (row xs'))[pp]?=some (row (if pp=rp then xs' else R[k]?.getD []))
  by_cases c:pp=rp
  ·clear h2 h3 nr hk;subst c;rw[CG rfl];exact iY (cD i3)
  ·rw[CJ c,List.getElem?_eq_getElem zC,Fo];exact(DH λq=>c q.symm).trans i3
 ·have hy:y<R.length:=by rw[<-a2];exact(List.getElem?_eq_some_iff.mp h2).1
  rw[C8,EL hy];show some (kA [] (ps[y]?.getD .none) λpp=>if pp=rp then xs' else R[y]?.getD [])=_
  rw[h2,Fo];exact CH some (CG rfl)
end
section
theorem mL(h1:xe k)(h2:br k≠m):fM m p (CK k (dR 1 w h)):=.inr (by rw[D9];exact⟨h1,h2⟩)
theorem afm:fM "rgb" p (CK 1 (dR 1 w h)):=.inl λgp=>by have h1:=(gp.cnt (by decide)).1;rw[D9] at h1;exact CI h1 (by decide)
theorem afk:fM m 1 P:=.inl λgp=>CI gp.pp.1 (by decide)
theorem afl:fM m 17 P:=.inl λgp=>CI gp.pp.2 (by decide)
theorem afj:fM m p []:=.inl λgp=>gp.ne rfl
theorem afn(hm:m≠"raw"):fM m p [dR 1 w h,dR 1 w h,dR 0 (w+1) h]:=.inl λgp=>by have h1:=((gp.cnt hm).2 _ _ rfl (Dm _ (Dm _ (Ds ..)))).1;change(((w+1:Nat)):Int)=w at h1;exact ak8 h1
theorem an9(g:Rh ρ w h p)(A4:ρ.length=11)(h0:0<w)(h1:w<900)(h2:h<900):po n lo ρ (.new 1 (.cons (.tH "rgb") (.cons (.var 2) (.cons (.list (.cons (.tB 3 [8,7]) (.cons (.tB 3 [8,7]) (.cons (.new 0 (.cons (.bin .add (.var 8) (.s7 1)) (.cons (.var 7) (.cons (.comp (.bin .mul (.list (.cons (.s7 0) .nil)) (.bin .add (.var 8) (.s7 1))) [9] true (.bi .range (.cons (.var 7) .nil)) .nil .nil) .nil)))) .nil)))) .nil)))):=λH hl=>by
 obtain⟨v1,l1,e1,a1⟩:=mj (n:=n) (H:=H) (w:=w) (h:=h) h0 (adh h0 h1) (CM h2 (by decide));obtain⟨v2,l2,e2,a2⟩:=mj (n:=n) (H:=H++l1) (w:=w) (h:=h) h0 (adh h0 h1) (CM h2 (by decide));have s8:∀j:Nat,(ρ.set 9 (.int j))[8]?=some (.int w):=λj=>(DH (by decide)).trans g.w;refine o_eea (abu (n:=n+1) (H:=H++l1++l2) (z:=0) (t:=9) (ρ:=ρ) (it:=.bi .range (.cons (.var 7) .nil)) (elt:=.bin .mul (.list (.cons (.s7 0) .nil)) (.bin .add (.var 8) (.s7 1))) (h:=h) (w:=w+1) (aM rfl (Xo (Xv g.h rfl)) (eO (CM h2 (by decide)))) (FI _) (Nat.lt_of_le_of_lt h1 (by decide)) (CM h2 (by decide)) (λj Hc=>by have e:=acM (H:=Hc) (w:=w+1) (z:=0) (FI _) (Nat.lt_of_le_of_lt h1 (by decide));rw[List.length_append (as:=Hc)] at e;exact am (bB (Xo Xi) (show 1<=al by decide)) (am (Xv (s8 j) rfl) Xi rfl) e)) λr l3 e3 a3=>?_
 have e4:ev (af (n+1)) (.new 0 (.cons (.bin .add (.var 8) (.s7 1)) (.cons (.var 7) (.cons (.comp (.bin .mul (.list (.cons (.s7 0) .nil)) (.bin .add (.var 8) (.s7 1))) [9] true (.bi .range (.cons (.var 7) .nil)) .nil .nil) .nil)))) 4 ρ (H++l1++l2)=.ok (.inst 0 [.int ((w+1:Nat)),.int h,.ref r]) (H++l1++l2++l3):=je rfl (ad (am (Xv g.w rfl) Xi rfl) (ad (Xv g.h rfl) (Xo e3))) rfl
 have e5:uc (af (n+1)) (.cons (.tB 3 [8,7]) (.cons (.tB 3 [8,7]) (.cons (.new 0 (.cons (.bin .add (.var 8) (.s7 1)) (.cons (.var 7) (.cons (.comp (.bin .mul (.list (.cons (.s7 0) .nil)) (.bin .add (.var 8) (.s7 1))) [9] true (.bi .range (.cons (.var 7) .nil)) .nil .nil) .nil)))) .nil))) 4 ρ H=.ok [v1,v2,.inst 0 [.int ((w+1:Nat)),.int h,.ref r]] (H++l1++l2++l3):=ad (lu g e1) (ad (lu g e2) (Xo e4))
 have ll:lo<=(H++l1).length:=by rw[List.length_append];exact FC hl
 have ll2:lo<=(H++l1++l2).length:=by rw[List.length_append];exact FC ll
 have ll3:lo<=(H++l1++l2++l3).length:=by rw[List.length_append];exact FC ll2
 have a4:tA (H++l1++l2).length (H++l1++l2++l3) (.inst 0 [.int ((w+1:Nat)),.int h,.ref r]) (dR 0 (w+1) h):=(ae r rfl a3)
 refine o_ea (oA (lo:=lo) (pe:=.var 2) (m:="rgb") (p':=p) (P:= [dR 1 w h,dR 1 w h,dR 0 (w+1) h]) e5 ll3 (Xv g.p rfl) rfl (show 3<1000 by decide) (λk D hD=>by
  rcases k with _ |_ |_ |k
  ·cases hD;exact(ae v1 rfl ((a1.app.app).u9 hl))
  ·cases hD;exact(ae v2 rfl (a2.app.u9 ll))
  ·cases hD;exact(ae _ rfl (a4.u9 ll2))
  ·cases hD) (afn (by decide)) (λD hD=>by
  simp only[CR,DE,DG] at hD;rcases hD with rfl |rfl |rfl<;>(show(CK h _).length<1000;rw[D9];exact CM h2 (by decide)))) λv e6 b6=>?_
 exact(bR v (l1++l2++l3++[.list [v1,v2,.inst 0 [.int ((w+1:Nat)),.int h,.ref r]]]) (by simp only[<-List.append_assoc];exact e6) (by simp only[<-List.append_assoc];exact b6))
theorem an2(hp:tL lo H ua (br d) p (bJ f w h d))(D:uD w h d p)
  (k:∀q l,uj H.length (H++l) q 9->W (CE (af (n+5)) (fY 6 iF) [.ref b,ua,.int p,.fn 41,.ref q,.undef,.undef,.int h,.int w,.undef,.undef] (H++l)) Q E):
  W (CE (af (n+5)) iF ([.ref b,ua]++CK 9 .undef) H) Q E:=by
 have dw:=D.ww;have dh:=D.hh;obtain⟨q,rfl,gq⟩:=hp;obtain⟨pl,g⟩:=gq.seen;obtain⟨r0,e0⟩:=mo g D.dd.le.1;have e1:∀a,(a=0\/a=1)->ev (af (n+5)) (.attr (.idx (.attr (.var 1) 5) (.s7 0)) a) 4 ([.ref b,.inst 1 [.str (br d),.int p,.ref q]]++CK 9 .undef) H=.ok (if a=0 then .int w else .int h) H:=λa ha=>by
  rcases ha with rfl |rfl
  ·exact ay (aR (ay (Xv rfl rfl) rfl) Xi (ci (d:=0) g.list e0)) rfl
  ·exact ay (aR (ay (Xv rfl rfl) rfl) Xi (ci (d:=0) g.list e0)) rfl
 refine aG (dE rfl (cq (ad (ay (Xv rfl rfl) rfl) (ad (e1 0 (.inl rfl)) (Xo (e1 1 (.inr rfl)))))) rfl) ?_;refine aG (ρ':= [.ref b,.inst 1 [.str (br d),.int p,.ref q],.int p,.fn 41,.undef,.undef,.undef,.int h,.int w,.undef,.undef]) (H1:=H) (by rw[E5.defn];rfl) ?_;have R0:∀a4:AV,Rh [.ref b,.inst 1 [.str (br d),.int p,.ref q],.int p,.fn 41,a4,.undef,.undef,.int h,.int w,.undef,.undef] w h p:=λa4=>⟨rfl,rfl,rfl,rfl⟩;have zX:∀(a4:AV)(H:AH),ev (af (n+5)) (.var 2) 4 [.ref b,.inst 1 [.str (br d),.int p,.ref q],.int p,.fn 41,a4,.undef,.undef,.int h,.int w,.undef,.undef] H=.ok (.int p) H:=λa4 H=>Xv rfl rfl
 obtain⟨q1,l1,s1,g1⟩:=acw (n:=n+4) (H:=H) (lo:=H.length) (t9.cons (iV (k:=3) (m:="ycc") (R0 .undef) (fh dw) (c5 dw) (c5 dh) (zX .undef) (by decide) (mL (.inr (.inl rfl)) (by decide))) (t9.cons (iV (k:=4) (m:="ycck") (R0 .undef) (fh dw) (c5 dw) (c5 dh) (zX .undef) (by decide) (mL (.inr (.inr rfl)) (by decide))) t9.nil)) (by decide) (Nat.le_refl _)
 refine aG (aD s1) ?_
 obtain⟨q2,l2,s2,g2⟩:=pz (n:=n+4) (ρ:= [.ref b,.inst 1 [.str (br d),.int p,.ref q],.int p,.fn 41,.ref q1,.undef,.undef,.int h,.int w,.undef,.undef]) g1 rfl (t9.cons (iV (k:=1) (m:="raw") (R0 (.ref q1)) (fh dw) (c5 dw) (c5 dh) (zX _) (by decide) (mL (.inl rfl) (by decide))) (t9.cons (iV (k:=3) (m:="raw") (R0 _) (fh dw) (c5 dw) (c5 dh) (zX _) (by decide) (mL (.inr (.inl rfl)) (by decide))) (t9.cons (iV (k:=1) (m:="rgb") (R0 _) (fh dw) (c5 dw) (c5 dh) (zX _) (by decide) afm) t9.nil))) (by decide) (by decide) (by rw[List.length_append];exact ak9)
 refine aG (aD s2) ?_;obtain⟨q3,l3,s3,g3⟩:=pz (n:=n+4) (ρ:= [.ref b,.inst 1 [.str (br d),.int p,.ref q],.int p,.fn 41,.ref q2,.undef,.undef,.int h,.int w,.undef,.undef]) g2 rfl (t9.cons (an9 (R0 (.ref q2)) rfl (fh dw) (Nat.lt_of_le_of_lt dw.2 (by decide)) (Nat.lt_of_le_of_lt dh.2 (by decide))) t9.nil) (by decide) (by decide) (by rw[List.length_append,List.length_append];exact ala);refine aG (aD s3) ?_
 refine o_eea (pz (n:=n+4) (ρ:= [.ref b,.inst 1 [.str (br d),.int p,.ref q],.int p,.fn 41,.ref q3,.undef,.undef,.int h,.int w,.undef,.undef]) g3 rfl (t9.cons (iV (k:=1) (m:="grey") (pe:=.s7 1) (p':=1) (R0 (.ref q3)) (fh dw) (c5 dw) (c5 dh) (λH=>Xi) (by decide) afk) (t9.cons (iV (k:=1) (m:="grey") (pe:=.s7 17) (p':=17) (R0 _) (fh dw) (c5 dw) (c5 dh) (λH=>Xi) (by decide) afl) (t9.cons (iV (k:=0) (m:="grey") (pe:=.var 2) (R0 _) (fh dw) (c5 dw) (c5 dh) (zX _) (by decide) afj) t9.nil))) (by decide) (by decide) (by rw[List.length_append,List.length_append,List.length_append];exact alb)) λq4 l4 s4 g4=>?_
 refine aG (aD s4) ?_;have e:H++l1++l2++l3++l4=H++(l1++l2++l3++l4):=by simp only[List.append_assoc]
 rw[e] at g4⊢;exact k q4 _ g4
end
section
theorem aao(h:¬vA p D):fM m p [D]:=.inl λgp=>h (gp.all D (Ds ..))
theorem adP{y:Nat}(hy:y<h):(dR z w h).rows[y]?=some (CK w z):=by show(CK h (CK w z))[y]?=_;rw[HZ,CG hy]
theorem aoj{xs:List Int}(h:H[rp]?=some (row xs))(hz:xs.getLast? =some z):dW H .pop (.ref rp) []=.ok (.int z) (H.set rp (row xs.dropLast)):=by show aJ R.bad (az H rp) (λys=>aJ R.bad ys.getLast? λv=>R.ok v (H.set rp (.list ys.dropLast)))=_;rw[bq h];show aJ R.bad (xs.map AV.int).getLast? (λv=>R.ok v (H.set rp (.list (xs.map AV.int).dropLast)))=_;rw[List.getLast?_map,hz,<-List.map_dropLast];rfl
theorem aoi{xs:List Int}(h:H[rp]?=some (row xs)):lX H .pop (.ref rp)=true:=by show aJ false (az H rp) _=_;rw[bq h];rfl
theorem aiC{r:Nat}(h:H[r]?=some (.list ps))(h0:0<ps.length)(hv:ps[ps.length-1]?=some v):eJ H (.ref r) (.int (-1))=some v:=by rw[ip h];unfold jy;rw[CJ (by decide),CG (alc h0),show((-1:Int)+ps.length).toNat=ps.length-1 by exact ald h0];exact hv
theorem aj5{r:Nat}(h:H[r]?=some (.list ((CL k).map λZ=>AV.bool true))):bj H .ui (.bool false) (.ref r)=some true:=by
 have e:∀l:List Nat,gO (λy=>gI y (.bool false)) (l.map λZ=>AV.bool true)=some false:=by
  intro l
  induction l with
  |nil=>rfl
  |cons a l ih=>show(some false).bind (λa=>(gO (λy=>gI y (.bool false)) (l.map λZ=>AV.bool true)).map (a||·))=_;rw[ih];rfl
 show(aJ none (az H r) λxs=>gO (λy=>gI y (.bool false)) xs).map (!·)=_;rw[bq h];show(gO (λy=>gI y (.bool false)) ((CL k).map λZ=>AV.bool true)).map (!·)=_;rw[e];rfl
theorem tA.put{y r:Nat}{xs xs':List Int}(hv:v=.inst 0 [.int D.w,.int D.h,.ref r])(g:tC lo H r D.rows)(h1:H[r]?=some (.list ps))(h2:ps[y]?=some (.ref rp))(h3:H[rp]?=some (row xs)):∃R',tA lo (H.set rp (row xs')) v ⟨D.w,D.h,R'⟩/\R'.length=D.rows.length/\R'[y]?=some xs':=by obtain⟨R',a,c,e⟩:=g.put (xs':=xs') h1 h2 h3;exact(aI R' (ae r hv a) c e)
theorem ai4(g:uj lo H q N)(hN:N<1000)(yQ:0<lo)(hq:ρ[4]?=some (.ref q))(A4:10<ρ.length):∃r H',ev (af (n+5)) (.comp (.call 29 (.cons (.var 10) .nil)) [10] true (.var 4) .nil .nil) 4 ρ H=.ok (.ref r) H'/\H'[r]?=some (.list ((CL N).map λZ=>AV.bool true)):=by
 obtain⟨ql,vs,c,e,k⟩:=g;have w0:W (ev (af (n+5)) (.comp (.call 29 (.cons (.var 10) .nil)) [10] true (.var 4) .nil .nil) 4 ρ H) (λv H'=>∃r,v=.ref r/\H'[r]?=some (.list ((CL N).map λZ=>AV.bool true))) bC:=by
  refine iA rfl (Xv hq rfl) (λj acc Hc=>acc=((CL j).map λZ=>AV.bool true)/\Fr 0 H.length H Hc) N (by rw[eZ c,e];exact Nat.le_refl _) ⟨rfl,.refl⟩ (λj acc Hc hj i=>?_) (λacc Hc i=>?_) λacc Hc i=>?_
  ·obtain⟨rfl,fr⟩:=i;obtain⟨v,hv⟩:∃v,vs[j]?=some v:=⟨_,List.getElem?_eq_getElem (GF hj (id (Fv e)))⟩;obtain⟨m,p,P,a1,a2,a3,a4⟩:=(k v (DT hv)).fr fr yQ;refine o_ea (aos (n:=n+4) a1 yQ a3 a4 λH1 g1=>aqU g1 a2) λH' e1 f1=>?_;obtain⟨qq,rfl,_⟩:=a1;refine(ax _ _ ((cM (fr.get (CW (Nat.lt_of_lt_of_le yQ ql)) c)).trans (CH some hv)) rfl (.of (aK (Xo (Xv (EV A4) rfl)) e1) ⟨?_,fr.trans ((f1.less fr.le).any fr.le)⟩));rw[Jl,Dr];rfl
  ·obtain⟨rfl,fr⟩:=i;rw[cM (fr.get (CW (Nat.lt_of_lt_of_le yQ ql)) c),Dq (CZ e)]
  ·obtain⟨rfl,fr⟩:=i;exact(jv (by rw[List.length_map,DC];unfold al;exact Nat.le_trans (CN hN) (by decide)) _ rfl aC)
 (refine o_eeaea w0.ok λv H' e r zq4 x=>?_;subst zq4);exact(bR r H' e x)
theorem an3(g:uj lo H q N)(hN:N<900)(bk:Bk b H)(bl:b<lo)(ll:lo<=H.length)(hw:1<=w/\w<=3)(hh:1<=h/\h<=3)(hp:2<=p/\p<=16):
  W (CE (af (n+5)) (fY 6 iF) [.ref b,ua,.int p,.fn 41,.ref q,.undef,.undef,.int h,.int w,.undef,.undef] H) (λfl H'=>fl=.ret (.bool true)) bC:=by
 (refine o_eeaea (mj (n:=n+4) (H:=H) (w:=w) (h:=h) (fh hw) (c5 hw) (c5 hh)) λv5 l7 e7 r5 zq4 a5=>?_;subst zq4);have bk7:=bk.app (l:=l7);obtain⟨k1,H8,BU,e8,f8,b8⟩:=dp (n:=n+4) (bk7.app (l:= [.list [.int (-1),.int (2^p)]])) (top:=2) (by decide) (by decide);have bl7:=bk7.lt;have z8:H8[(H++l7).length]?=some (.list [.int (-1),.int (2^p)]):=f8.get (CW bl7) aC;obtain⟨z,hz,zb⟩:∃z:Int,([.int (-1),.int (2^p)]:List AV)[k1]?=some (.int z)/\¬(0<=z/\z<=2^p-1):=by
  clear e8;rcases k1 with _ |_ |k
  ·exact⟨-1,rfl,λx=>CI x.1 (by decide)⟩
  ·exact(ae (2^p) rfl (λx=>by exact ale x))
  ·exact(adf BU).elim
 obtain⟨y,H9,hy,e9,f9,b9⟩:=dp (n:=n+4) b8 (top:=h) (fh hh) (adi hh);obtain⟨x,zn,hx,Ad,zN,Bh⟩:=dp (n:=n+4) b9 (top:=w) (fh hw) (adi hw);have f78:Fr b (H++l7).length (H++l7) H8:=(Fr.app (Nat.le_refl _)).trans (f8.less (by rw[List.length_append (as:=H++l7)];exact Nat.le_add_right _ _));have Br:=f78.trans (f9.less f78.le);have asu:=Br.trans (zN.less Br.le);have bh:b<H.length:=bk.lt;have a9:=a5.fr Br bh;have a10:=a5.fr asu bh;obtain⟨_,ps,i1,i2,i3⟩:=a9;obtain⟨rp,i4,i5,i6⟩:=i3 y _ (adP hy);have i1':=zN.get (by have:=a10.lo_le;exact CW (Nat.lt_of_lt_of_le bh (by assumption))) i1;have i6':=zN.get (CW (Nat.lt_of_lt_of_le bh i5)) i6;obtain⟨R5,p5,pl5,pr5⟩:=tA.put (xs':=(CK w (1:Int)).set x z) (D:=dR 1 w h) rfl a10 i1' i4 i6';have st:gZ zn (.ref rp) (.int x) (.int z)=some (zn.set rp (row ((CK w (1:Int)).set x z))):=by rw[sF i6' ⟨by exact adj,by rw[List.length_map,D9];exact(C2.mpr hx)⟩,DQ,<-List.map_set];rfl
 have nb5:¬vA p ⟨w,h,R5⟩:=λgd=>zb ((gd.rows y _ pr5).2 x z (EV (by rw[D9];exact hx)));have yJ:Fr b H.length H (zn.set rp (row ((CK w (1:Int)).set x z))):=((Fr.app (Nat.le_refl _)).trans (asu.less (by rw[List.length_append];exact Nat.le_add_right _ _))).trans (.put (.inr i5));have AJ:Bk b (zn.set rp (row ((CK w (1:Int)).set x z))):=Bh.put (CW (Nat.lt_of_lt_of_le bh i5));(revert st p5 yJ AJ;refine cX (zn.set rp (row ((CK w (1:Int)).set x z))) λzo at3 p5 st yJ AJ=>?_);(refine o_eeaea (mj (n:=n+4) (H:=zo) (w:=w) (h:=h) (fh hw) (c5 hw) (c5 hh)) λv6 l12 Bl r6 zq4 a6=>?_;subst zq4);have a6':=a6;obtain⟨r6l,Co,j1,j2,j3⟩:=a6;have lr6:Co.length=h:=by rw[j2];exact D9
 obtain⟨Cq,j4,j5,j6⟩:=j3 (h-1) _ (adP (GH hh.1 EZ));have j4':Co[Co.length-1]?=some (.ref Cq):=by rw[lr6];exact j4
 have gl:(CK w (1:Int)).getLast? =some 1:=by rw[List.getLast?_replicate,CJ (CW hw.1)]
 have ep:=aoj j6 gl;obtain⟨R6,p6,pl6,pr6⟩:=tA.put (xs':=(CK w (1:Int)).dropLast) (D:=dR 1 w h) rfl a6' j1 j4 j6;have nb6:¬vA p ⟨w,h,R6⟩:=λgd=>by have:=(gd.rows (h-1) _ pr6).1;rw[K2,D9] at this;change(((w-1:Nat)):Int)=(w:Int) at this;exact CI (Int.ofNat_inj.mp this) (CP (GH hw.1 EZ))
 have xC:Fr b zo.length zo ((zo++l12).set Cq (row (CK w (1:Int)).dropLast)):=(Fr.app (Nat.le_refl _)).trans (.put (.inr j5));have Cn:=p5.fr xC bh;have lh:=yJ.le;have yK:=yJ.trans (xC.less lh);(revert ep p6 xC Cn yK;refine cX ((zo++l12).set Cq (row (CK w (1:Int)).dropLast)) λAD at4 ep p6 xC Cn yK=>?_);have g13:=g.fr yK bl;have Ci:=yK.le;have R5l:R5.length<1000:=by rw[pl5];show(CK h _).length<_;rw[D9];exact Nat.lt_of_le_of_lt hh.2 (by decide)
 have R6l:R6.length<1000:=by rw[pl6];show(CK h _).length<_;rw[D9];exact Nat.lt_of_le_of_lt hh.2 (by decide)
 have ρe:=λ(H:AH)=>Xv (Γ:=af (n+5)) (m:=4) (H:=H) (ρ:= [.ref b,ua,.int p,.fn 41,.ref q,.inst 0 [.int w,.int h,.ref r5],.inst 0 [.int w,.int h,.ref r6],.int h,.int w,.undef,.undef]) (j:=2) (v:=.int p) rfl rfl
 refine o_ea (oA (n:=n+4) (lo:=lo) (H:=AD) (ρ:= [.ref b,ua,.int p,.fn 41,.ref q,.inst 0 [.int w,.int h,.ref r5],.inst 0 [.int w,.int h,.ref r6],.int h,.int w,.undef,.undef]) (es:=.cons (.var 5) .nil) (pe:=.var 2) (m:="grey") (p':=p) (P:= [⟨w,h,R5⟩]) (Xo (Xv rfl rfl)) (Nat.le_trans ll Ci) (ρe _) rfl (show 1<1000 by decide) (λk D hD=>by
  cases k with
  |zero=>cases hD;exact(ae _ rfl (Cn.u9 (Mq.mp ll)))
  |succ k=>cases hD) (aao nb5) (λD hD=>by obtain rfl:=DD.mp hD;exact R5l)) λu1 x1 y1=>?_
 refine o_ea (oA (n:=n+4) (lo:=lo) (H:=AD++[.list [.inst 0 [.int w,.int h,.ref r5]]]) (ρ:= [.ref b,ua,.int p,.fn 41,.ref q,.inst 0 [.int w,.int h,.ref r5],.inst 0 [.int w,.int h,.ref r6],.int h,.int w,.undef,.undef]) (es:=.cons (.var 6) .nil) (pe:=.var 2) (m:="grey") (p':=p) (P:= [⟨w,h,R6⟩]) (Xo (Xv rfl rfl)) (by rw[List.length_append];exact Nat.le_trans (Nat.le_trans ll Ci) (Nat.le_add_right ..)) (ρe _) rfl (show 1<1000 by decide) (λk D hD=>by
  cases k with
  |zero=>cases hD;exact(ae _ rfl (p6.app.u9 (Nat.le_trans ll lh)))
  |succ k=>cases hD) (aao nb6) (λD hD=>by obtain rfl:=DD.mp hD;exact R6l)) λu2 x2 y2=>?_
 obtain⟨_,vs,c1,d1,A6⟩:=g13;(revert x2 y2;refine cX (AD++[AO.list [.inst 0 [.int w,.int h,.ref r5]]]++[AO.list [.inst 0 [.int w,.int h,.ref r6]]]) λAE yM x2 y2=>?_);have c14:(AE++[.list [u1,u2]])[q]?=some (.list vs):=by rw[<-yM];exact aH (aH (aH c1))
 have ea:=jS c14 aC (by show _+2<_;exact d1▸CM (Ln hN 2) (by decide));have g15:uj lo (AE++[.list [u1,u2]]++[.list (vs++[u1,u2])]) (AE++[AO.list [u1,u2]]).length (N+2):=by
  refine⟨?_,_,aC,by rw[List.length_append,d1];rfl,λv hv=>?_⟩
  ·rw[<-yM,List.length_append,List.length_append,List.length_append];exact alg ll Ci
  ·rcases DJ.mp hv with hv |hv
   ·rw[<-yM];exact(A6 v hv).app.app.app.app
   ·simp only[CR,DE,DG] at hv;clear c14 ea;rcases hv with rfl |rfl
    ·rw[<-yM];exact y1.app.app.app
    ·exact y2.app.app
 obtain⟨r,HF,eF,rF⟩:=ai4 (n:=n) (ρ:= [.ref b,ua,.int p,.fn 41,.ref (AE++[AO.list [u1,u2]]).length,.inst 0 [.int w,.int h,.ref r5],.inst 0 [.int w,.int h,.ref r6],.int h,.int w,.undef,.undef]) g15 (CM (Ln hN 2) (by decide)) (LY bl) rfl (show 10<11 by decide);have R7:Rh [.ref b,ua,.int p,.fn 41,.ref q,.undef,.undef,.int h,.int w,.undef,.undef] w h p:=⟨rfl,rfl,rfl,rfl⟩;have R9:Rh [.ref b,ua,.int p,.fn 41,.ref q,.inst 0 [.int w,.int h,.ref r5],.undef,.int h,.int w,.undef,.undef] w h p:=⟨rfl,rfl,rfl,rfl⟩;show W (CE (af (n+5)) (.cons _ (.cons _ (.cons _ (.cons _ (.cons _ (.cons _ .nil)))))) _ H) _ _;refine aG (aD (lu R7 e7)) ?_;refine aG (lp (aR (bB (ad (py Xi) (Xo (am Xi (Xv rfl rfl) (jG (p:=p) (Nat.le_trans hp.2 (by decide)))))) (show 2<=al by decide)) (aK (ad (Xv rfl rfl) (Xo Xi)) e8) (ci z8 hz)) (aR (ay (Xv rfl rfl) rfl) (aK (ad (Xv rfl rfl) (Xo (Xv rfl rfl))) e9) (ci i1 i4)) (aK (ad (Xv rfl rfl) (Xo (Xv rfl rfl))) Ad) st) ?_;refine aG (aD (lu R9 Bl)) ?_;refine aG (eU (cS rfl (aR (ay (Xv rfl rfl) rfl) (py Xi) (aiC j1 (lr6▸hh.1) j4')) (aoi j6) aj ep) rfl) ?_;refine aG (aD (am (Xv rfl rfl) (bB (ad x1 (Xo x2)) (show 2<=al by decide)) ea)) ?_;exact dF (aw Xb eF (aj5 rF)) rfl
end
section
theorem an4(hb:Bk b H)(hp:tL lo H ua (br d) p (bJ f w h d))(D:uD w h d p):∃H',run (n+6) 30 [.ref b,ua] H=.ok (.bool true) H':=by
 have w0:=dG (n:=n+5) (k:=30) (np:=2) (nv:=11) (bd:=iF) (vs:= [.ref b,ua]) (H:=H) (Q:=λv H'=>v=.bool true) (E:=bC) rfl rfl
  (an2 hp D λq l g=>(an3 g (by decide) hb.app hb.lt (by rw[List.length_append];exact Nat.le_add_right _ _) D.ww D.hh D.pp).mono (λfl H' q=>by obtain rfl:=q;rfl) λZ Z x=>x)
 obtain⟨v,H',e,rfl⟩:=w0.ok;exact⟨H',e⟩
theorem adN:dc .pow (.int 10) (.int 18) H=.ok (.int (10^18)) H:=by show au R.bad (0<=(18:Int)/\(18:Int)<=1000/\(10:Int).natAbs<cI) (R.ok (AV.int (10^(18:Int).toNat)) H)=_;unfold au;rw[CG (by decide)];rfl
theorem af9:∃s t:Int,run (n+1) 19 [.tR ns] H=.ok (.ref H.length) (H++[.list [.int s,.int t]]):=by
 have e1:∃a:Int,ev (af n) (.u5 (.cmp (.bi .len (.cons (.var 0) .nil)) .gt (.s7 0)) (.bi .int (.cons (.idx (.var 0) (.s7 0)) .nil)) (.s7 0)) 4 [.tR ns,.undef,.undef] H=.ok (.int a) H:=by
  cases ns with
  |nil=>exact⟨0,jQ (aw (aM rfl (Xo (Xv rfl rfl)) rfl) Xi (eW (x:=0) (y:=0) (by decide))) Xi⟩
  |cons a ns=>exact⟨a,jR (aw (aM rfl (Xo (Xv rfl rfl)) rfl) Xi (eW (x:=((a::ns).length:Int)) (y:=0) (C5 (by rw[Dc];exact alh)))) (aM rfl (Xo (aR (z:=.int a) (Xv rfl rfl) Xi rfl)) rfl)⟩
 obtain⟨a,e1⟩:=e1;have e2:∃c:Int,ev (af n) (.u5 (.cmp (.var 1) .ge (.s7 0)) (.var 1) (.bin .sub (.s7 1) (.var 1))) 4 [.tR ns,.int a,.undef] H=.ok (.int c) H:=by
  by_cases h:0<=a
  ·exact⟨a,jR (aw (Xv rfl rfl) Xi (lG (C5 h))) (Xv rfl rfl)⟩
  ·exact⟨1-a,jQ (aw (Xv rfl rfl) Xi (lG (Dx h))) (am Xi (Xv rfl rfl) rfl)⟩
 obtain⟨c,e2⟩:=e2;have e3:∃s:Int,ev (af n) (.u5 (.cmp (.var 2) .ge (.bin .pow (.s7 10) (.s7 18))) (.var 2) (.s7 0)) 4 [.tR ns,.int a,.int c] H=.ok (.int s) H:=by
  by_cases h:(10:Int)^18<=c
  ·exact⟨c,jR (aw (Xv rfl rfl) (am Xi Xi adN) (lG (C5 h))) (Xv rfl rfl)⟩
  ·exact⟨0,jQ (aw (Xv rfl rfl) (am Xi Xi adN) (lG (Dx h))) Xi⟩
 obtain⟨s,e3⟩:=e3;refine(cK s (c.fmod 1000003*31+11) (dQ (np:=1) (nv:=3) (bd:=aaG) rfl rfl ?_));exact Sc (aD e1) (Sc (aD e2) (Sr (cR (bB (ad e3 (Xo (am (am (am (Xv rfl rfl) Xi (mB (by decide))) Xi (fG (.inr (by decide)))) Xi rfl))) (show 2<=al by decide)))))
theorem abE:∀{T:List (Bs×Bs)}{e:Bool}{s:Nat},ba T<=s->cU e T s=false
 |[],_,_,_=>rfl
 |(g,w)::T,e,s,h=>by change g.length+w.length+ba T<=s at h;rw[j8 (ali h)];exact abE (LA h)
theorem afN(x:Text T ws)(g:Right ws w h d p)(hc:eQ c)(ho:(aq++ak T (c::rest)).length<100000)(hl:rest.length=h*w*d*ah p)(hs:s<(aq++ak T (c::rest)).length):
  ∃H',run (n+5) 26 [.bytes ((aq++ak T (c::rest)).take s)] H=.ok (.str (iX T s)) H'/\Fr H.length H.length H H':=by
 have lt:=iT (T:=T) (c:=c) (rest:=rest)
 by_cases c1:s<2
 ·have e:=ajw (n:=n) (H:=H) (o:=(aq++ak T (c::rest)).take s) (by rw[Dg];exact Nat.lt_of_le_of_lt (F9 ..) c1);have e2:iX T s=ad1 0:=CG c1;rw[e2];exact(ae H (kI e (by decide)) (.refl))
 ·have e0:(aq++ak T (c::rest)).take s=aq++(ak T (c::rest)).take (s-2):=i8 (show 2<=s by exact Dj c1)
  have e2:iX T s=if cU true T (s-2)=true then("range":Str) else("cut":Str):=CJ c1
  have zR:((aq++ak T (c::rest)).take s).length<100000:=by rw[Dg];exact Nat.lt_of_le_of_lt (DV ..) ho
  by_cases c2:s-2<ba T
  ·have e3:(ak T (c::rest)).take (s-2)=(ak T []).take (s-2):=by
    rw[iL,jM];have:=im (T:=T) (r:= []);change _=ba T+0 at this;exact this▸CN c2
   rw[e0,e3] at zR;rw[e0,e3];obtain⟨H',e4,f4⟩:=ajt (n:=n) (H:=H) x c2 zR;rw[e2];refine(ae H' ?_ f4)
   cases hd:cU true T (s-2) with
   |true=>rw[hd] at e4;exact kI e4 (by decide)
   |false=>rw[hd] at e4;exact kI e4 (by decide)
  ·have e3:(ak T (c::rest)).take (s-2)=ak T ((c::rest).take (s-2-ba T)):=by
    have l0:=im (T:=T) (r:= []);change _=ba T+0 at l0;rw[iL (r:=c::rest),iL (r:=(c::rest).take _),i8 (l0▸Dj c2),l0,Il]
   rw[e0,e3] at zR;rw[e0,e3];obtain⟨H',e4,f4⟩:=ajv (n:=n) (H:=H) x g hc zR hl (by rw[lt] at hs;exact alj hl hs);rw[e2,abE (Dj c2)];exact(ae H' (kI e4 (by decide)) f4)
theorem afe{t:List Nat}(hd:Γ.hd=false)(hi:ev Γ it 4 ρ H=.ok src H1)(I:Nat->aB->AH->Prop)(N:Nat)(hN:N<=cJ H1 src)(h0:I 0 ρ H1)
  (hs:∀j ρ H,j<N->I j ρ H->∃v vd,aS H src j=some (some v)/\bz H t one v ρ=some vd/\W (CE Γ bd vd H) (λfl H'=>∃ρ',fl=.next ρ'/\I (j+1) ρ' H') E)
  (he:∀ρ H,I N ρ H->aS H src N=some none):W (exec Γ (.for t one it bd) ρ H) (λfl H'=>∃ρ',fl=.next ρ'/\I N ρ' H') E:=by
 have e:exec Γ (.for t one it bd) ρ H=ga (λH j=>aS H src j) (λv ρ H=>match bz H t one v ρ with
    |some ρ=>CE Γ bd ρ H
    |none=>.bad) (cJ H1 src+1) 0 ρ H1:=by
  rw[E5.for];rw[hd];exact X1 hi rfl
 rw[e];refine ab6 I N (λj ρ H hj i=>?_) he _ 0 ρ H1 h0 (DY _) (Eo hN);obtain⟨v,vd,e1,e2,w⟩:=hs j ρ H hj i;refine(ae v e1 ?_);rw[e2];exact w
theorem aqk{a0:AV}(hb:Bk b H)(x:Text T ws)(g:Right ws w h d p)(hc:eQ c)(ho:(aq++ak T (c::rest)).length<100000)(hl:rest.length=h*w*d*ah p)(yu:H[sp]?=some (.list (c6 (ck 2 T))))(bs:b≠sp):
  ∃a8 a9 H',exec (af (n+6)) ng [a0,.ref b,a2,a3,a4,a5,.ref sp,.bytes (aq++ak T (c::rest)),.undef,.undef] H=.ok (.next [a0,.ref b,a2,a3,a4,a5,.ref sp,.bytes (aq++ak T (c::rest)),a8,a9]) H'/\Fr b H.length H H'/\Bk b H':=by
 have lt:=iT (T:=T) (c:=c) (rest:=rest);have tl:T.length<1000\/1000<=T.length:=LI _ _;have tw:T.length=2*ws.length+1:=by
  have:=CH DI x.words
  rwa [List.length_map,aeR] at this
 have hT:∀t∈T,0<t.2.length:=by
  (refine o_eeeaaa (sP ws [] T x.words x.wE x.names) λg0 n0 q zq3 a1 a2=>r_a λa3 Z=>?_;clear x ho yu lt tl tw;subst zq3);have:∀(q:List d7)(nm:Bs)(es:List (Bs×Bs)),gS q nm es->∀t∈ez q,0<t.2.length:=by
   intro q
   induction q with
   |nil=>intro _ _ _ t ht;cases ht
   |cons z q ih=>
    intro nm es hq t ht;obtain⟨z1,z2,z3,z4⟩:=z
    cases ht with
    |head=>exact jE hq.2.2.2.2.1
    |tail _ ht=>
     cases ht with
     |head=>exact jE hq.2.2.2.2.2.2.1
     |tail _ ht=>exact ih _ _ hq.2.2.2.2.2.2.2 t ht
  intro t ht
  cases ht with
  |head=>exact jE a2
  |tail _ ht=>exact this q _ _ a3 t ht
 have w0:W (exec (af (n+6)) ng [a0,.ref b,a2,a3,a4,a5,.ref sp,.bytes (aq++ak T (c::rest)),.undef,.undef] H) (λfl H'=>∃ρ',fl=.next ρ'/\(∃a8 a9,ρ'=[a0,.ref b,a2,a3,a4,a5,.ref sp,.bytes (aq++ak T (c::rest)),a8,a9])/\Fr b H.length H H'/\Bk b H') bC:=by
  unfold ng;refine afe rfl (aM rfl (Xo Xi) (eO (k:=10) (by decide))) (λj ρ' H'=>(∃a8 a9,ρ'=[a0,.ref b,a2,a3,a4,a5,.ref sp,.bytes (aq++ak T (c::rest)),a8,a9])/\Fr b H.length H H'/\Bk b H') 10 (Nat.le_refl 10) ⟨(cK _ _ rfl),.refl,hb⟩ (λj ρ' Hc hj i=>?_) (λρ' Hc i=>rfl);(revert i;refine r_aa λzq0 fr bk=>?_;obtain⟨a8,a9,rfl⟩:=zq0);have size:∃(s:Nat)(H1:AH),s<(aq++ak T (c::rest)).length/\Fr b Hc.length Hc H1/\Bk b H1/\ev (af (n+6)) (.u5 (.cmp (.var 8) .gt (.s7 1)) (.call 20 (.cons (.var 1) (.cons (.bi .len (.cons (.var 7) .nil)) .nil))) (.var 8)) 4 [a0,.ref b,a2,a3,a4,a5,.ref sp,.bytes (aq++ak T (c::rest)),.int j,a9] Hc=.ok (.int s) H1:=by
   by_cases c1:1<j
   ·obtain⟨s,H1,h1,e1,f1,b1⟩:=dp (n:=n+5) bk (top:=(aq++ak T (c::rest)).length) (alk ho hl lt) (CM ho (by decide));exact(jx s H1 h1 f1 b1 (jR (aw (Xv rfl rfl) Xi (eW (C5 (Int.lt_of_toNat_lt c1)))) (aK (ad (Xv rfl rfl) (Xo (aM rfl (Xo (Xv rfl rfl)) EH))) e1)))
   ·exact(jx j Hc (alm ho hl lt hj c1) (.refl) bk (jQ (aw (Xv rfl rfl) Xi (eW (Dx (aln hj c1)))) (Xv rfl rfl)))
  obtain⟨s,H1,s1,f1,b1,e1⟩:=size;obtain⟨H2,e2,f2⟩:=afN (n:=n+1) (H:=H1) x g hc ho hl s1;have Ac:=b1.lt;have b2:=b1.fr f2 Ac (CP Ac);have f02:Fr b Hc.length Hc H2:=f1.trans ((f2.less f1.le).any f1.le);have s2:H2[sp]?=some (.list (c6 (ck 2 T))):=f02.get bs.symm (fr.get bs.symm yu);obtain⟨H3,e3,f3⟩:=agL (n:=n+5) (s:=s) s2 hT (by have:=x.few;exact tw▸Nat.lt_of_le_of_lt (EE (DW 2 (CN this))) (by decide));have b2l:=b2.lt;have es:=aec (H:=H1) (x:=aq++ak T (c::rest)) (u:=s) (CM s1 (CM ho (by decide)));refine(ax (.int j) _ (by rw[show(AV.uP 0 ((10:Nat):Int) 1)=.uP 0 ((10:Nat):Int) 1 from rfl,cr,CG hj]) rfl (aG (aD e1) (fQ (aw (aK (Xo (fT (Xv rfl rfl) aj (Xo (Xv rfl rfl)) aj es)) e2) (aK (ad (Xv rfl rfl) (Xo (Xv rfl rfl))) e3) m6) (bA (cY _ rfl (cK _ _ rfl) ?_ (b2.fr f3 b2l (CP b2l)))))));have Bp:=fr.trans (f02.less fr.le);exact Bp.trans ((f3.less Bp.le).any Bp.le)
 (refine o_eeaeaa w0.ok λfl H' e ρ' zq4 zq5=>r_a λfr bk=>?_;subst zq4;obtain⟨a8,a9,rfl⟩:=zq5);exact(bZ a8 a9 H' e fr bk)
end
theorem adM:(bJ f w h d).length=d:=by unfold bJ;rw[List.length_map,DC]
set_option maxHeartbeats 4000000 in
theorem plain(ns:List Int):AF 20 (.tR ns) []:=by
 obtain⟨s,t,e1⟩:=af9 (n:=19) (H:= []) (ns:=ns);have b1:Bk 0 ([]++[AO.list [.int s,.int t]]):=(cK s t rfl);(revert e1 b1;refine cX (([]++[AO.list [.int s,.int t]]:AH)) λH1 hH1 e1 b1=>?_);obtain⟨k,H2,hk,e2,f2,b2⟩:=dp (n:=19) b1 (top:=15) (by decide) (by decide);refine o_eeeeee (aoc (n:=18) (p:=2+k) b2 (alo hk)) λua w h d f H3=>r_aaaaa λe3 D g3 hf f3 b3=>?_;have l2:0<H2.length:=b2.lt;refine o_eeeaaa (aqQ (n:=18) g3 b3 l2 D) λws wr H4 e4 gw hws=>r_aa λlwr f4 b4=>?_;have g4:=g3.fr f4 l2;have AC:0≠wr:=by have:=b3.lt;exact CP (Nat.lt_of_lt_of_le this lwr)
 refine o_eeeea (qZ (n:=17) b4 hws AC (rB gw) (λx hx=>by have y1:=gw.y7 x hx;have y2:=qR y1.1;exact⟨Nat.le_trans y2 (by decide),Nat.le_trans y1.2.2 (by decide)⟩) (by have:=gw.len;exact Nat.le_trans this (by decide))) λT c sp H5 e5 o5=>?_
 have g5:=g4.fr o5.fr l2;have atE:=o5.fr.get AC.symm hws;have sp0:0≠sp:=by have:=o5.le;have:=b4.lt;exact CP (Nat.lt_of_lt_of_le this (by assumption))
 have e6:=si (n:=19) g5 D.dd.le.1 (by have:=D.ww;exact gT this) (by have:=D.hh;exact gT this) (by have:=D.dd.le;exact Nat.le_trans this.2 (by decide)) (λk y x Z Z Z=>rt hf D.pp.2 k y x);have x5:=sM o5 gw.names gw.len;have tl:=su o5 gw.len;have fl:=lP (f:=f) D;have el:=jo (p:=2+k) (fl:=av f w h d);have l6:(aq++ak T []++[c]).length=2+ba T+1:=by rw[List.length_append,List.length_append,im];rfl
 have ho:(aq++ak T (c::aE (ah (2+k)) (av f w h d))).length<100000:=by rw[iT];exact Nat.lt_of_le_of_lt (C7 (Eg (CY tl 2) 1) (Nat.le_trans el (Eb 2 fl))) (by decide)
 have zR:(aq++ak T (c::(aE (ah (2+k)) (av f w h d)++[]))).length<100000:=by rw[Dk];exact ho
 have AT:=kb (w:=w) (h:=h) (d:=d) hf;obtain⟨p1,H6,e7,f6,g6⟩:=acH (n:=16) (H:=H5) (more:= []) x5 (gw.right D) o5.stop zR AT;rw[Dk] at e7;have b5l:=o5.bk.lt;have b6:=o5.bk.fr f6 b5l (CP b5l);have f6':=f6.any (b:=0) (Nat.le_refl _);have Bw:=g5.fr f6' l2;obtain⟨H7,e8,f7⟩:=ad3 (n:=18) g6 Bw (by rw[adM];have:=D.dd.le;exact adk this);have f7':=f7.any (b:=0) (Nat.le_refl _);have b6l:=b6.lt;have b7:=b6.fr f7 b6l (CP b6l);have g7:=Bw.fr f7' l2;obtain⟨H8,e9,f8⟩:=aq1 (n:=16) g7 l2 D hf;have f8':=f8.any (b:=0) (Nat.le_refl _);have b7l:=b7.lt;have b8:=b7.fr f8 b7l (CP b7l);have g8:=g7.fr f8' l2;obtain⟨p2,H9,Ad,f9,g9⟩:=acH (n:=16) (H:=H8) (more:= []) (aqo D) ((qm D).right D) (show eQ 10 by unfold eQ;decide) (CM (aaO (f:=f) D) (by decide)) AT;have f9':=f9.any (b:=0) (Nat.le_refl _);have b8l:=b8.lt;have b9:=b8.fr f9 b8l (CP b8l);have Bx:=g8.fr f9' l2;obtain⟨zn,e11,zN⟩:=ad3 (n:=18) g9 Bx (by rw[adM];have:=D.dd.le;exact adk this);have asr:=zN.any (b:=0) (Nat.le_refl _);have b9l:=b9.lt;have Bh:=b9.fr zN b9l (CP b9l);have yC:=Bx.fr asr l2;have ass:Fr 0 H5.length H5 zn:=(((f6'.trans (f7'.less f6.le)).trans (f8'.less (Nat.le_trans f6.le f7.le))).trans (f9'.less (Nat.le_trans (Nat.le_trans f6.le f7.le) f8.le))).trans (asr.less (Nat.le_trans (Nat.le_trans (Nat.le_trans f6.le f7.le) f8.le) f9.le));have atN:=ass.get sp0.symm o5.vQ;have atX:=ass.get AC.symm atE;obtain⟨a8,a9,zo,Bl,f11,AJ⟩:=aqk (n:=14) (a0:=.tR ns) (a2:=.int (2+k:Nat)) (a3:=ua) (a4:=.ref wr) (a5:=.bytes (aq++ak T []++[c])) Bh x5 (gw.right D) o5.stop ho (by rw[jp,fZ]) atN sp0;have Bv:=yC.fr f11 l2;obtain⟨Bd,e13,yb,b12⟩:=aqG (n:=14) AJ l2 Bv (f11.get AC.symm atX) AC gw D hf;have g12:=Bv.fr yb l2;obtain⟨AD,e14⟩:=an4 (n:=14) b12 g12 D;obtain⟨q,hq,_⟩:=id g5;clear g3 g4 g5 Bw g7 g8 Bx yC Bv g12;subst hq;obtain⟨q1,AY,_⟩:=id g6;clear g6;subst AY;have ex1:CE (af 20) (fi 6 lx) ([.tR ns]++CK 9 .undef) []=.ok (.next [.tR ns,.ref 0,.int ((2+k:Nat)),.inst 1 [.str (br d),.int ((2+k:Nat)),.ref q],.ref wr,.bytes (aq++ak T []++[c]),.ref sp,.bytes (aq++ak T (c::aE (ah (2+k)) (av f w h d))),.undef,.undef]) H5:=by rw[<-qx];exact Sc (aD (aK (Xo (Xv rfl rfl)) e1)) (Sc (aD (am Xi (aK (ad (Xv rfl rfl) (Xo Xi)) e2) (z:=.int ((2+k:Nat))) (by rw[FT];rfl))) (Sc (aD (aK (ad (Xv rfl rfl) (Xo (Xv rfl rfl))) e3)) (Sc (aD (aK (ad (Xv rfl rfl) (Xo (Xv rfl rfl))) e4)) (Sc (dE rfl (aK (ad (Xv rfl rfl) (Xo (Xv rfl rfl))) e5) rfl) (Sc (aD (am (Xv rfl rfl) (aK (Xo (Xv rfl rfl)) e6) (eB (Nat.lt_of_le_of_lt (C7 (Nat.le_trans (CZ l6) (Eg (CY tl 2) 1)) (Nat.le_trans el (Eb 2 fl))) (by decide))))) Sn)))))
 have ex2:ev (af 20) aeA 4 [.tR ns,.ref 0,.int ((2+k:Nat)),.inst 1 [.str (br d),.int ((2+k:Nat)),.ref q],.ref wr,.bytes (aq++ak T []++[c]),.ref sp,.bytes (aq++ak T (c::aE (ah (2+k)) (av f w h d))),.undef,.undef] H5=.ok (.bool false) H7:=iB (r:=true) (aK (ad (aK (Xo (Xv rfl rfl)) e7) (Xo (Xv rfl rfl))) e8)
 have ex3:ev (af 20) kX 4 [.tR ns,.ref 0,.int ((2+k:Nat)),.inst 1 [.str (br d),.int ((2+k:Nat)),.ref q],.ref wr,.bytes (aq++ak T []++[c]),.ref sp,.bytes (aq++ak T (c::aE (ah (2+k)) (av f w h d))),a8,a9] zo=.ok (.bool true) Bd:=aK (ad (Xv rfl rfl) (ad (Xv rfl rfl) (Xo (Xv rfl rfl)))) e13
 have ex4:uc (af 20) jU 4 [.tR ns,.ref 0,.int ((2+k:Nat)),.inst 1 [.str (br d),.int ((2+k:Nat)),.ref q],.ref wr,.bytes (aq++ak T []++[c]),.ref sp,.bytes (aq++ak T (c::aE (ah (2+k)) (av f w h d))),a8,a9] Bd=.ok [.ref 0,.inst 1 [.str (br d),.int ((2+k:Nat)),.ref q]] Bd:=ad (Xv rfl rfl) (Xo (Xv rfl rfl))
 exact .mk ex1 ex2 (Xv (Γ:=af 20) rfl rfl) (Xv (Γ:=af 20) rfl rfl) e9 Ad e11 Bl ex3 ex4 rfl e14
end L
end
end Internal
end Mine
theorem PySem.Challenge.cw_pf0241_01_holds : PySem.Challenge.rw_pf0241_01.Holds :=
  Mine.Internal.arh fun ns _ => Mine.Internal.L.plain ns
