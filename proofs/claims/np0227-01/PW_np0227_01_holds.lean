import PyProof.Rows.All
import PyProof.NoPylong
import OpenK.KLine
import KE.KDictOf
import KE.KEqDict
import KE.KIsBytes
import KE.KItemsList
import KE.KSortTup
import KE.KTryMore
import OpenK.AllK
import Wide.All
import Lean
import PySem.Challenge.RW_np0227_01
set_option Elab.async false
set_option linter.all false
set_option maxRecDepth 100000
set_option backward.match.sparseCases false
set_option genInjectivity false
set_option genSizeOf false
set_option genCtorIdx false
set_option compiler.extract_closed false
set_option bootstrap.genMatcherCode false
open List renaming mem_append_right->Aa,length_map->Af,mem_append_left->Ag,getD_eq_getElem?_getD->Ak,append_assoc->Aq,length_append->As,map_map->Aw,getElem?_eq_getElem->AB,perm_middle->AC,perm_append_comm_assoc->AD,getElem?_map->AE,length_cons->AJ,filter_cons->AM,mem_map_of_mem->AN,filterMap_cons->AO,map_append->AT,map_cons->A0,append_nil->A6,lookup_cons->A7,find?_cons->A8,length_range->Ba,mem_of_getElem?->Bc,take_append_drop->Bg,size_toArray->Bl,flatMap_cons->Bs,replicate->Bt,getElem?_eq_none->Bw,flatMap_append->Bx,map_congr_left->By,nodup_nil->BB,take_add_one->BE,length_take_of_le->BI,take_length->BU,length_replicate->BY,length_filter_le->BZ,not_mem_nil->B5,length_drop->B8,take_of_length_le->Cc,length_take->Cg,getElem?_append->Cm,range->CG,getElem?_take_of_lt->CU,length_take_le->CX,ext_getElem->C2,getElem?_drop->Dc,mem_of_mem_take->Dq,length_take_le'->Dv,drop_eq_getElem_cons->DF,mem_cons->DN,length_filterMap_le->DP,mem_append->DT,drop_zero->Ea,perm_append_comm->Ef,getElem?_toArray->Eg,getElem?_range->ET,any_map->EY,findIdx?_cons->Fc,take_zero->Fh,perm_ext_iff_of_nodup->Fj,reverse_cons->FA,length->FD,any_cons->FF,rec->Gb,drop_length->Ge,sum_replicate_nat->Gs,length_pos_of_mem->Gv,forIn_cons->GD,nil_append->GE,sum_append->GG,findIdx?_toArray->GK,mem_of_mem_drop->G0,filterMap->Hc,append_toArray->Hx,filter_sublist->HB,all_cons->HE,take_nil->HF,contains_cons->HM,mem_filterMap->HW,getElem_range->HX,getElem?_take->H4,find?_eq_none->H8,flatten_cons->Ix,map_nil->Iy,find?_append->IC,filter_congr->IE,map_fst_zip->IK,getElem_mem->IM,foldl_cons->I7,map_const'->Jb,filter_map->Jc,mem_filter->Jd,filter_nil->Je
open PySem.Str renaming ofString->Ab,ofString->HY
open PySem renaming wpAny_bind->Ac,Shared->Ad,Value->Ae,wpAny_pure->An,FuncData->Ap,model->At,starEach->Ay,wpAny_of_eq->AA,wpAny->AF,builtinLookup_eq_fast->AI,sizeLine_eq->AQ,compareOp->AU,wpAny_specialOf->AV,backTo->AY,typeLookup_type->Bb,DictEntry->Bi,isTrue->Bj,assignEach->Bo,wpAny_mono->BC,wpAny_holding->BF,mainGlobals->BP,Builtin->BW,builtinsNs->B2,typeLookup->B3,bm_if_false->B7,wpAny_truthy_bool->Ca,cellsFrom->Cp,clipAt->Cq,execs->Cw,strKind->Cy,binaryOp->CC,wpAny_load->CF,notedBy->CL,wpAny_newObj_type->CP,foldedSetIterable->CQ,call->CR,holding->CW,isSubtype_type->C3,wpAny_rule->C7,wpAny_typeOf->Db,letOwnedTupleGo->Dd,wpAny_execs_nil->Df,swappedStores->Dg,assignInOrder->Dh,isSubtype->Di,sizeLine->Dn,callWith->Do,callEnvC->Dr,checkBuiltinCall->Dx,swapsWithSole->DM,intKind->DO,standAt->DR,theTreesLotGoes->DS,getMethod->DY,noteFrame->DZ,wpAny_assign_Name->D8,wpAny_pyIter_list->D9,wpAny_call_entry->El,entryFor_of_fast->Em,entryFor_of_tree->En,Fin->Eo,wpAny_execs_cons->Ep,behindInMarks->Er,relabel->Es,plainId_quiet->Eu,CmpOp->Ex,interactive->Ey,wpAny_field->Ez,leftWithCleanup_false_of_bare->EG,leftWithCleanup->EO,wpAny_Constant_bool->EQ,spliced->EW,compareChain->EX,GenState->E2,entryFor->E9,wpAny_newFunctionEnv_cells->Fd,typeIs_str->Ff,OsState->Fx,intKind->Fz,wpAny_standAt->FG,truthy->FH,Comprehension->FI,typeOf->FJ,wpAny_getItem_list_slice->FK,markedBehindIn_of_false->FQ,wpAny_unpackItems_tuple->FR,wpAny_comp_letGo->FS,wpAny_lookBehind->FV,NameKind->FW,wpAny_list_append_plain->FY,wpAny_callSpecial?_slot->F5,opaqueClassAbove->Ga,call_meetsIn->Gm,callType_new->Go,call_meets->Gq,wpAny_pyNext_list_item->Gr,wpAny_pyNext_list_end->GQ,moduleNames->GT,letTemporaryGo->GU,recursionLimit->GX,newFunctionEnv->GY,lookup_relabel_local->GZ,wpAny_loadName_local->G1,wpAny_loadPart->G2,meets_dict_pop_there->G3,rawInt->G4,wpAny_setField->G6,wpAny_newTuple->G8,codeAny_call_builtin->G9,treeTable->Hd,codeAny->Hf,getAttr->Hg,testChain->Hi,swapsWith->Hj,leaving->Hk,ClassData->Hl,pairTrees->Hm,raiseStmt->Hn,wpAny_evalPart_none->Ht,wpAny_setItem_pairs->Hu,builtinType_eq_fast->Hw,merged_nil_of_nodup->Hy,wpAt_of_wpAny->HA,wpAny_release->HD,wpAny_attempt->HG,wpAny_mkBytes->HH,mainNs->HL,cameBackBy->HN,isInstance->HO,wpAny_Name->HP,wpAny_Constant_str->HQ,sysModules->HV,bm_if_true->H0,getattributeRaised->H7,bindName->Ij,IntMulOk->Io,lastMarks->IH,pyIter->II,specialOf->IJ,seqIndex?->IL,Drawn->IT,wpAny_point->IU,unpackItems->IV,wpAny_alloc->IX,wpAt_bind->Ja,setAttr->Jf
open And renaming intro->Ah
open Nat renaming le_trans->Ai,le_refl->AL,le_of_ble_eq_true->Bq,le_succ->Br,le_add_left->Bz,succ_le_succ->BD,add_le_add_left->BK,le_of_eq->BM,zero_le->BQ,le_add_right->BV,lt_of_lt_of_le->B1,ne_of_lt->Cb,lt_succ_of_lt->Co,add_right_comm->CJ,add_le_add->CK,zero_add->C9,le_sub_of_add_le'->Dm,lt_succ_self->Dz,le_of_lt->DA,le_max_right->DB,mul_le_mul_left->DJ,lt_irrefl->DK,add_sub_cancel_left->D6,ble->D7,add_sub_of_le->Ed,le_antisymm->EJ,min_eq_left->EN,succ->Fb,ne_of_gt->Gg,succ_sub->Gh,beq->Gi,sub_lt_iff_lt_add'->Gu,lt_or_ge->Gw,eq_of_beq_eq_true->GR,add_lt_add_left->Ho,sub_lt_sub_left->Hs,lt_of_le_of_lt->HK,sub_le->H5,sub_add_eq_max->H6,le_of_succ_le->Ia,mul_succ->Ib,succ_sub_succ->Ic,blt->Iz,add_comm->IA,lt_trans->IB,le_succ_of_le->ID,max_eq_right->IF,mod_eq_of_lt->IP,le_of_not_le->IQ,sub_sub->IS,not_lt_zero->I9
open PySem.Heap renaming get?_push_of_some->Aj,get?_push_size->Ax,lt_size->AZ,SameBut->BS,get?_update_self->BX,get?_update_other->Cu,size_push->CY,get?_push_ne->Eb,size_update->F8,ExtBut->GW,get?_update_ne->Hz
open Bool renaming and_eq_true->Al,false_ne_true->AK,not_eq_true'->Bm,false_eq_true->C8,not_eq_true->Dy,noConfusion->F9,eq_iff_iff->GF,or_eq_false_iff->GV,rec->Ih,or_eq_true->I5
open Exists renaming intro->Am,elim->Ao
open Prod renaming fst->Ar,snd->EB
open Int renaming le_trans->Au,natCast_nonneg->Av,lt_of_le_of_lt->Az,emod_lt_of_pos->AW,toNat_natCast->AX,add_zero->A9,le_add_of_nonneg_right->Bd,le_of_lt->Bf,emod_nonneg->Bh,lt_of_lt_of_le->Bv,le_refl->BG,add_le_add_right->BH,add_assoc->BJ,add_comm->BL,sub_nonneg_of_le->BO,mul_ediv_add_emod->Ce,max_eq_right->Cf,lt_trans->Cj,le_of_lt_add_one->Ck,eq_ofNat_of_zero_le->Cn,add_le_add_left->Ct,add_nonneg->CH,le_of_eq->CO,add_lt_add_left->CV,ediv_eq_zero_of_lt->C6,le_of_add_le_add_left->DD,le_add_of_nonneg_left->DE,sub_add_cancel->DU,add_sub_cancel->DV,mul_nonneg->Ec,add_mul_ediv_left->Ei,natAbs_of_nonneg->Ev,add_one_le_of_lt->EF,max_eq_left->EH,ediv_nonneg->EM,toNat_of_nonneg->ES,zero_add->EU,mul_comm->EZ,sub_eq_add_neg->E1,fdiv_eq_ediv_of_nonneg->Fe,le_add_one->Fi,add_le_of_le_sub_left->Fk,lt_of_add_lt_add_left->Fp,add_sub_assoc->Ft,sub_pos_of_lt->Fu,emod_eq_of_lt->Fv,toNat_sub->FE,min_le_right->FO,min_eq_right->F4,ediv_le_self->Gc,min_le_left->Gz,sub_lt_self->GA,sub_le_self->GB,le_max_left->GI,sub_nonpos_of_le->GS,mul_add->Ha,le_sub_one_of_lt->Hb,add_left_comm->H9,sub_sub->IZ,min_eq_left->I0,natCast_add->I1
open List.Perm renaming cons->AG,swap->Bp,append_left->Ej,trans->GH
open Option.some renaming inj->AH
open PyProof.Rows renaming seqObj->AP,IntsAre->FC,len_list->GP,markedEach_of_false->Hr,listUpdate_at->HJ,seqEpoch_at->IY
open PySem.W renaming typeIs_bytes->AR,behindTheImports->AS,noRoadLSs->Cz,Looks->Dp,findIn->DH,topFrame->DL,namesMeet->DX,dictOf->Ek,boot_o_4->Ew,builtinNamed->EV,boot_heap->E0,boot_o_0->E8,piecesOf->FP,looks_findIn->Gl,piece_app->He,ownOf->HC,lookIn->HR,readsOut->Ie,namesResolve->Ig,instObj->Il,typeIs_bytes->Ip,looksOpen->IG
open PyProof renaming noPylong_small->Bu
open PySem.Builtin.Bytes renaming slotIsOwn->BN,ownRelease->B0,takeBufferQuiet?->Ch,write->Cs,exportsOf->C4,buffer?->Dl,tooLong->Eh,joined->EE,bindOptional->Fg,takeBuffer?->Fl,checkResize->Fm,joinItems->F7,exported->Gk
open PySem.Calls renaming Name_function_global->BR,spliced_nil->EA,loadGlobal_builtin->HU
open PySem.Value renaming none->B4,isStrOf->CT,str->Dj,ref->Dw,isInt->EC,bytes->G5,isStrOf_shape->Hv,isInt_shape->Iu
open PySem.F renaming plainAttrs_dict->B6,slot_dict_items->C5,slot_str_split->Da,slot_dict_pop->Dk,args_object_init_2->Du,args_str_split_2->DQ,entry_str_split->D1,type_dict_items->D5,excBase_Exception->Fo,slot_list_extend->FM,args_dict_pop_2->FX,plainAttrs_list->F6,entry_dict_pop->Gn,plainAttrs_str->Gp,slot_dict_get->GN,type_dict_pop->GO,bm_typeCall->HI,bm_newCall->Iv,bm_called->IW
open PySem.NameKind renaming free->B9
open Prod.mk renaming inj->Cd
open PySem.Obj renaming mapSeq->Ci,putNameByArray->HS,data_mapFields->HZ
open PySem.Heap.SameBut renaming update->Cr
open PySem.Builtin.Bytes.joinM renaming match_1->Cv
open PySem.Builtin.SmallTypes renaming nextOf->CM
open PySem.W.KBw renaming IsBytesIter->CN,iter_typeIs->EL,slot_next->FL,pyIter_bytes->FZ
open PySem.PyData renaming keyHash->CZ
open ForInStep renaming yield->De
open Decidable renaming byContradiction->DG,em->Gj
open PySem.Builtin.Int renaming intBits->DI
open False renaming elim->DW
open PySem.Shared renaming asleep_of_life->Ee
open PySem.W.Looks renaming of_pure->Et,ld->FU
open PySem.Around renaming under_plainId->ED
open PySem.Heap.Ns renaming of_isNs->EI
open PySem.Heap.DictOf renaming new->EK
open Option renaming some_ne_none->EP,map_eq_none_iff->Gy,rec->H3
open Array renaming length_toList->ER,getElem?_eq_getElem->Fq,getElem?_modify->GM,ext_getElem?->H1,replicate->I6
open PySem.Code renaming quiet_builtin->Fa
open Ne renaming symm->Fw
open PySem.Sem renaming wp_mono->Fy
open PySem.Builtin.Dict renaming updateFrom->Gf
open PySem.TablesWhole renaming wSs->GC,noTwice->Hp,Ctx->I3
open Std.Legacy.Range renaming forIn_eq_forIn_range'->G7
open PySem.Builtin.Bytes.exported renaming match_1->Hq
open PySem.ScopeKind renaming function->HT
open PySem.Keeper renaming boundFrame->Ii
open PySem.callAny renaming viaDunder->Ik
open Function renaming comp_def->Im
open Eq renaming trans->Iq
open List.Sublist renaming refl->Ir
open PySem.Txt renaming join->Iw,split->IN
open PySem.W.WData renaming layableAll->IR
open PySem.Challenge renaming pw_np0227_01->I2,rw_np0227_01->I4
open PySem.Builtin.Bytes.Kind renaming bytearray->I8
open Iff renaming rfl->Jg
namespace Mine
theorem bS {P0 P1:Prop} {G:Prop} (h:P0∧P1) (k:P0->P1->G):G:=k h.1 h.2
theorem dR {P0 P1 P2:Prop} {G:Prop} (h:P0∧P1∧P2) (k:P0->P1->P2->G):G:=k h.1 h.2.1 h.2.2
theorem e03 {P0 P1 P2 P3:Prop} {G:Prop} (h:P0∧P1∧P2∧P3) (k:P0->P1->P2->P3->G):G:=k h.1 h.2.1 h.2.2.1 h.2.2.2
theorem e04 {P0 P1 P2 P3 P4:Prop} {G:Prop} (h:P0∧P1∧P2∧P3∧P4) (k:P0->P1->P2->P3->P4->G):G:=k h.1 h.2.1 h.2.2.1 h.2.2.2.1 h.2.2.2.2
theorem aE {α0:Sort _} {P0:α0->Prop} {G:Prop} (h:∃ a,P0 a) (k:∀ a,P0 a->G):G:=Ao h λa h=>k a h
theorem an {α0:Sort _} {P0 P1:α0->Prop} {G:Prop} (h:∃ a,P0 a∧P1 a) (k:∀ a,P0 a->P1 a->G):G:=Ao h λa h=>k a h.1 h.2
theorem ec {α0:Sort _} {P0 P1 P2:α0->Prop} {G:Prop} (h:∃ a,P0 a∧P1 a∧P2 a) (k:∀ a,P0 a->P1 a->P2 a->G):G:=Ao h λa h=>k a h.1 h.2.1 h.2.2
theorem sC {α0:Sort _} {P0 P1 P2 P3:α0->Prop} {G:Prop} (h:∃ a,P0 a∧P1 a∧P2 a∧P3 a) (k:∀ a,P0 a->P1 a->P2 a->P3 a->G):G:=Ao h λa h=>k a h.1 h.2.1 h.2.2.1 h.2.2.2
theorem e14 {α0:Sort _} {P0 P1 P2 P3 P4:α0->Prop} {G:Prop} (h:∃ a,P0 a∧P1 a∧P2 a∧P3 a∧P4 a) (k:∀ a,P0 a->P1 a->P2 a->P3 a->P4 a->G):G:=Ao h λa h=>k a h.1 h.2.1 h.2.2.1 h.2.2.2.1 h.2.2.2.2
theorem e17 {α0:Sort _} {P0 P1 P2 P3 P4 P5 P6 P7:α0->Prop} {G:Prop} (h:∃ a,P0 a∧P1 a∧P2 a∧P3 a∧P4 a∧P5 a∧P6 a∧P7 a) (k:∀ a,P0 a->P1 a->P2 a->P3 a->P4 a->P5 a->P6 a->P7 a->G):G:=Ao h λa h=>k a h.1 h.2.1 h.2.2.1 h.2.2.2.1 h.2.2.2.2.1 h.2.2.2.2.2.1 h.2.2.2.2.2.2.1 h.2.2.2.2.2.2.2
theorem e20 {α0 α1:Sort _} {P0:α0->α1->Prop} {G:Prop} (h:∃ a b,P0 a b) (k:∀ a b,P0 a b->G):G:=Ao h λa h=>Ao h λb h=>k a b h
theorem oq {α0 α1:Sort _} {P0 P1:α0->α1->Prop} {G:Prop} (h:∃ a b,P0 a b∧P1 a b) (k:∀ a b,P0 a b->P1 a b->G):G:=Ao h λa h=>Ao h λb h=>k a b h.1 h.2
theorem fg {α0 α1:Sort _} {P0 P1 P2:α0->α1->Prop} {G:Prop} (h:∃ a b,P0 a b∧P1 a b∧P2 a b) (k:∀ a b,P0 a b->P1 a b->P2 a b->G):G:=Ao h λa h=>Ao h λb h=>k a b h.1 h.2.1 h.2.2
theorem e23 {α0 α1:Sort _} {P0 P1 P2 P3:α0->α1->Prop} {G:Prop} (h:∃ a b,P0 a b∧P1 a b∧P2 a b∧P3 a b) (k:∀ a b,P0 a b->P1 a b->P2 a b->P3 a b->G):G:=Ao h λa h=>Ao h λb h=>k a b h.1 h.2.1 h.2.2.1 h.2.2.2
theorem e24 {α0 α1:Sort _} {P0 P1 P2 P3 P4:α0->α1->Prop} {G:Prop} (h:∃ a b,P0 a b∧P1 a b∧P2 a b∧P3 a b∧P4 a b) (k:∀ a b,P0 a b->P1 a b->P2 a b->P3 a b->P4 a b->G):G:=Ao h λa h=>Ao h λb h=>k a b h.1 h.2.1 h.2.2.1 h.2.2.2.1 h.2.2.2.2
theorem e25 {α0 α1:Sort _} {P0 P1 P2 P3 P4 P5:α0->α1->Prop} {G:Prop} (h:∃ a b,P0 a b∧P1 a b∧P2 a b∧P3 a b∧P4 a b∧P5 a b) (k:∀ a b,P0 a b->P1 a b->P2 a b->P3 a b->P4 a b->P5 a b->G):G:=Ao h λa h=>Ao h λb h=>k a b h.1 h.2.1 h.2.2.1 h.2.2.2.1 h.2.2.2.2.1 h.2.2.2.2.2
theorem e26 {α0 α1:Sort _} {P0 P1 P2 P3 P4 P5 P6:α0->α1->Prop} {G:Prop} (h:∃ a b,P0 a b∧P1 a b∧P2 a b∧P3 a b∧P4 a b∧P5 a b∧P6 a b) (k:∀ a b,P0 a b->P1 a b->P2 a b->P3 a b->P4 a b->P5 a b->P6 a b->G):G:=Ao h λa h=>Ao h λb h=>k a b h.1 h.2.1 h.2.2.1 h.2.2.2.1 h.2.2.2.2.1 h.2.2.2.2.2.1 h.2.2.2.2.2.2
theorem yT {α0 α1:Sort _} {P0 P1 P2 P3 P4 P5 P6 P7 P8 P9:α0->α1->Prop} {G:Prop} (h:∃ a b,P0 a b∧P1 a b∧P2 a b∧P3 a b∧P4 a b∧P5 a b∧P6 a b∧P7 a b∧P8 a b∧P9 a b) (k:∀ a b,P0 a b->P1 a b->P2 a b->P3 a b->P4 a b->P5 a b->P6 a b->P7 a b->P8 a b->P9 a b->G):G:=Ao h λa h=>Ao h λb h=>k a b h.1 h.2.1 h.2.2.1 h.2.2.2.1 h.2.2.2.2.1 h.2.2.2.2.2.1 h.2.2.2.2.2.2.1 h.2.2.2.2.2.2.2.1 h.2.2.2.2.2.2.2.2.1 h.2.2.2.2.2.2.2.2.2
theorem e30 {α0 α1 α2:Sort _} {P0:α0->α1->α2->Prop} {G:Prop} (h:∃ a b c,P0 a b c) (k:∀ a b c,P0 a b c->G):G:=Ao h λa h=>Ao h λb h=>Ao h λc h=>k a b c h
theorem e31 {α0 α1 α2:Sort _} {P0 P1:α0->α1->α2->Prop} {G:Prop} (h:∃ a b c,P0 a b c∧P1 a b c) (k:∀ a b c,P0 a b c->P1 a b c->G):G:=Ao h λa h=>Ao h λb h=>Ao h λc h=>k a b c h.1 h.2
theorem e32 {α0 α1 α2:Sort _} {P0 P1 P2:α0->α1->α2->Prop} {G:Prop} (h:∃ a b c,P0 a b c∧P1 a b c∧P2 a b c) (k:∀ a b c,P0 a b c->P1 a b c->P2 a b c->G):G:=Ao h λa h=>Ao h λb h=>Ao h λc h=>k a b c h.1 h.2.1 h.2.2
theorem jC {α0 α1 α2:Sort _} {P0 P1 P2 P3:α0->α1->α2->Prop} {G:Prop} (h:∃ a b c,P0 a b c∧P1 a b c∧P2 a b c∧P3 a b c) (k:∀ a b c,P0 a b c->P1 a b c->P2 a b c->P3 a b c->G):G:=Ao h λa h=>Ao h λb h=>Ao h λc h=>k a b c h.1 h.2.1 h.2.2.1 h.2.2.2
theorem e41 {α0 α1 α2 α3:Sort _} {P0 P1:α0->α1->α2->α3->Prop} {G:Prop} (h:∃ a b c d,P0 a b c d∧P1 a b c d) (k:∀ a b c d,P0 a b c d->P1 a b c d->G):G:=Ao h λa h=>Ao h λb h=>Ao h λc h=>Ao h λd h=>k a b c d h.1 h.2
theorem e42 {α0 α1 α2 α3:Sort _} {P0 P1 P2:α0->α1->α2->α3->Prop} {G:Prop} (h:∃ a b c d,P0 a b c d∧P1 a b c d∧P2 a b c d) (k:∀ a b c d,P0 a b c d->P1 a b c d->P2 a b c d->G):G:=Ao h λa h=>Ao h λb h=>Ao h λc h=>Ao h λd h=>k a b c d h.1 h.2.1 h.2.2
theorem e43 {α0 α1 α2 α3:Sort _} {P0 P1 P2 P3:α0->α1->α2->α3->Prop} {G:Prop} (h:∃ a b c d,P0 a b c d∧P1 a b c d∧P2 a b c d∧P3 a b c d) (k:∀ a b c d,P0 a b c d->P1 a b c d->P2 a b c d->P3 a b c d->G):G:=Ao h λa h=>Ao h λb h=>Ao h λc h=>Ao h λd h=>k a b c d h.1 h.2.1 h.2.2.1 h.2.2.2
theorem e44 {α0 α1 α2 α3:Sort _} {P0 P1 P2 P3 P4:α0->α1->α2->α3->Prop} {G:Prop} (h:∃ a b c d,P0 a b c d∧P1 a b c d∧P2 a b c d∧P3 a b c d∧P4 a b c d) (k:∀ a b c d,P0 a b c d->P1 a b c d->P2 a b c d->P3 a b c d->P4 a b c d->G):G:=Ao h λa h=>Ao h λb h=>Ao h λc h=>Ao h λd h=>k a b c d h.1 h.2.1 h.2.2.1 h.2.2.2.1 h.2.2.2.2
theorem e53 {α0 α1 α2 α3 α4:Sort _} {P0 P1 P2 P3:α0->α1->α2->α3->α4->Prop} {G:Prop} (h:∃ a b c d e,P0 a b c d e∧P1 a b c d e∧P2 a b c d e∧P3 a b c d e) (k:∀ a b c d e,P0 a b c d e->P1 a b c d e->P2 a b c d e->P3 a b c d e->G):G:=Ao h λa h=>Ao h λb h=>Ao h λc h=>Ao h λd h=>Ao h λe h=>k a b c d e h.1 h.2.1 h.2.2.1 h.2.2.2
theorem e54 {α0 α1 α2 α3 α4:Sort _} {P0 P1 P2 P3 P4:α0->α1->α2->α3->α4->Prop} {G:Prop} (h:∃ a b c d e,P0 a b c d e∧P1 a b c d e∧P2 a b c d e∧P3 a b c d e∧P4 a b c d e) (k:∀ a b c d e,P0 a b c d e->P1 a b c d e->P2 a b c d e->P3 a b c d e->P4 a b c d e->G):G:=Ao h λa h=>Ao h λb h=>Ao h λc h=>Ao h λd h=>Ao h λe h=>k a b c d e h.1 h.2.1 h.2.2.1 h.2.2.2.1 h.2.2.2.2
theorem e55 {α0 α1 α2 α3 α4:Sort _} {P0 P1 P2 P3 P4 P5:α0->α1->α2->α3->α4->Prop} {G:Prop} (h:∃ a b c d e,P0 a b c d e∧P1 a b c d e∧P2 a b c d e∧P3 a b c d e∧P4 a b c d e∧P5 a b c d e) (k:∀ a b c d e,P0 a b c d e->P1 a b c d e->P2 a b c d e->P3 a b c d e->P4 a b c d e->P5 a b c d e->G):G:=Ao h λa h=>Ao h λb h=>Ao h λc h=>Ao h λd h=>Ao h λe h=>k a b c d e h.1 h.2.1 h.2.2.1 h.2.2.2.1 h.2.2.2.2.1 h.2.2.2.2.2
theorem e58 {α0 α1 α2 α3 α4:Sort _} {P0 P1 P2 P3 P4 P5 P6 P7 P8:α0->α1->α2->α3->α4->Prop} {G:Prop} (h:∃ a b c d e,P0 a b c d e∧P1 a b c d e∧P2 a b c d e∧P3 a b c d e∧P4 a b c d e∧P5 a b c d e∧P6 a b c d e∧P7 a b c d e∧P8 a b c d e) (k:∀ a b c d e,P0 a b c d e->P1 a b c d e->P2 a b c d e->P3 a b c d e->P4 a b c d e->P5 a b c d e->P6 a b c d e->P7 a b c d e->P8 a b c d e->G):G:=Ao h λa h=>Ao h λb h=>Ao h λc h=>Ao h λd h=>Ao h λe h=>k a b c d e h.1 h.2.1 h.2.2.1 h.2.2.2.1 h.2.2.2.2.1 h.2.2.2.2.2.1 h.2.2.2.2.2.2.1 h.2.2.2.2.2.2.2.1 h.2.2.2.2.2.2.2.2
theorem e61 {α0 α1 α2 α3 α4 α5:Sort _} {P0 P1:α0->α1->α2->α3->α4->α5->Prop} {G:Prop} (h:∃ a b c d e f,P0 a b c d e f∧P1 a b c d e f) (k:∀ a b c d e f,P0 a b c d e f->P1 a b c d e f->G):G:=Ao h λa h=>Ao h λb h=>Ao h λc h=>Ao h λd h=>Ao h λe h=>Ao h λf h=>k a b c d e f h.1 h.2
theorem e15 {α0:Sort _} {P0 P1 P2 P3 P4 P5:α0->Prop} {G:Prop} (h:∃ a,P0 a∧P1 a∧P2 a∧P3 a∧P4 a∧P5 a) (k:∀ a,P0 a->P1 a->P2 a->P3 a->P4 a->P5 a->G):G:=Ao h λa h=>k a h.1 h.2.1 h.2.2.1 h.2.2.2.1 h.2.2.2.2.1 h.2.2.2.2.2
theorem e34 {α0 α1 α2:Sort _} {P0 P1 P2 P3 P4:α0->α1->α2->Prop} {G:Prop} (h:∃ a b c,P0 a b c∧P1 a b c∧P2 a b c∧P3 a b c∧P4 a b c) (k:∀ a b c,P0 a b c->P1 a b c->P2 a b c->P3 a b c->P4 a b c->G):G:=Ao h λa h=>Ao h λb h=>Ao h λc h=>k a b c h.1 h.2.1 h.2.2.1 h.2.2.2.1 h.2.2.2.2
theorem e35 {α0 α1 α2:Sort _} {P0 P1 P2 P3 P4 P5:α0->α1->α2->Prop} {G:Prop} (h:∃ a b c,P0 a b c∧P1 a b c∧P2 a b c∧P3 a b c∧P4 a b c∧P5 a b c) (k:∀ a b c,P0 a b c->P1 a b c->P2 a b c->P3 a b c->P4 a b c->P5 a b c->G):G:=Ao h λa h=>Ao h λb h=>Ao h λc h=>k a b c h.1 h.2.1 h.2.2.1 h.2.2.2.1 h.2.2.2.2.1 h.2.2.2.2.2
theorem ns {α:Type _} {a:α} {P:Prop} (h:none=some a):P:=((EP a h.symm).elim:P)
theorem sn {α:Type _} {a:α} {P:Prop} (h:some a=none):P:=((EP a h).elim:P)
theorem ft {P:Prop} (h:false=true):P:=(AK h).elim
theorem tf {P:Prop} (h:true=false):P:=(AK h.symm).elim
theorem x2 {α β:Sort _} {P:α->β->Prop} (a:α) (b:β) (h:P a b):∃ a b,P a b:=⟨a,b,h⟩
theorem x3 {α β γ:Sort _} {P:α->β->γ->Prop} (a:α) (b:β) (c:γ) (h:P a b c):∃ a b c,P a b c:=⟨a,b,c,h⟩
end Mine
open Lean in
local macro_rules
 | `(tactic| rw [$rs,*])=>do
  let mut ts:Array (TSyntax `tactic):=#[]
  for r in rs.getElems do
   match r with
   | `(Lean.Parser.Tactic.rwRule| ← $e:term)=>ts:=ts.push (← `(tactic| first | refine Eq.rec ?_ $e | rewrite [← $e]))
   | `(Lean.Parser.Tactic.rwRule| $e:term)=>ts:=ts.push (← `(tactic| first | refine Eq.substr $e ?_ | rewrite [$e:term]))
   | _=>Macro.throwUnsupported
  ts:=ts.push (← `(tactic| try with_reducible rfl))
  `(tactic| ($[$ts:tactic];*))
local macro_rules
 | `(tactic| cases $e:ident)=>`(tactic| first | exact Mine.ns $e | exact Mine.sn $e | exact Mine.ft $e | exact Mine.tf $e | (replace $e:ident:=AH $e;subst $e) | cases ($e))
open Lean in
local macro_rules
 | `(tactic| show [$es,*])=>do
  let mut ts:Array (TSyntax `tactic):=#[]
  for e in es.getElems do
   if (e.raw.find? (·.isOfKind `Lean.Parser.Term.syntheticHole)).isSome then ts:=ts.push (← `(tactic| refine $e))
   else match e with
    | `($f:term $as*)=>ts:=ts.push (← `(tactic| refine $f $as* ?_))
    | _=>ts:=ts.push (← `(tactic| refine $e ?_))
  `(tactic| ($[$ts:tactic];*))
open Lean in
local macro_rules
 | `(tactic| show ($a,$es,*))=>do
  let xs:=#[a]++es.getElems
  let mut l:Array (TSyntax `term):=xs.pop
  `(tactic| (show [$l,*];exact $(xs.back!)))
namespace Mine
theorem art (a b:Nat):max (a:Int) b=((max a b:Nat):Int):=by
 rcases Nat.le_total a b with h | h
 ·rw [IF h,Cf (Int.ofNat_le.mpr h)]
 ·rw [Nat.max_eq_left h,EH (Int.ofNat_le.mpr h)]
theorem mxN {b k:Nat} {i:Int} (h:0≤i):max (b:Int) (i+k)=((max b (i.toNat+k):Nat):Int):=by
 refine aE (Cn h) λj e=>?_
 subst e
 exact art b (j+k)
theorem toN {i:Int} {k m:Nat} (h:0≤i) (h1:i+k≤m):i.toNat+k≤m:=by
 refine aE (Cn h) λj e=>?_
 subst e
 exact Int.ofNat_le.mp h1
theorem exN {x:Int} (h:0≤x):∃ n:Nat,x=n:=Cn h
theorem ne0 {x:Int} (h:0 <x):x≠0:=Int.ne_of_gt h
theorem exA {i j:Int} (h:i≤j):∃ k:Nat,j=i+k:=by
 show(aE (exN (BO h)) λk e=>?_,⟨k,by rw [← e,BL,DU]⟩)
theorem ano {a b n:Nat} (h:a - b=n+1):a - (b+1)=n:=by rw [Nat.sub_succ,h];rfl
theorem anp {a r m i j:Int} (e0:a+r=i) (e1:a+m=j):i≤j↔r≤m:=by subst e0;subst e1;exact Int.add_le_add_iff_left a
theorem anq {a r m i j s:Int} (e0:a+r=i) (e1:a+m=j):j <i+s↔m <r+s:=by subst e0;subst e1;rw [BJ];exact Int.add_lt_add_iff_left a
theorem aka {a r m i j:Int} (e0:a+r=i) (e1:a+m=j):i+(m - r)=j:=by
 subst e0;subst e1;rw [BJ,← Ft,BL r,DV]
theorem ar1 {bs B:Int} {be s l:Nat} (h:min (bs - be) B=s) (e:(l:Int)=bs):be+s≤l:=by
 have:=Fk (Au (CO h.symm) (Gz _ _))
 rw [← e] at this
 exact Int.ofNat_le.mp this
theorem ar2 {A i:Int} {d s n:Nat} (h:min A (i+n - (i+d))=s):d+s≤n:=by
 have:=DD (BJ ..▸Fk (Au (CO h.symm) (FO _ _)):i+(d+s:Int)≤i+n)
 exact Int.ofNat_le.mp this
theorem anr {n d s k:Nat} (h:0 <s) (hk:n - d≤k+1):n - (d+s)≤k:=by
 rw [← IS]
 exact Ai (Nat.sub_le_sub_left h _) (Nat.sub_le_of_le_add hk)
theorem arv {w:Nat} (h:0 <w):(-1+(w:Int)).toNat=w - 1:=by
 cases w with
 | zero=>cases h
 | succ w=>exact congrArg Int.toNat (show (-1:Int)+(w+1:Int)=w by rw [BL,BJ];rfl)
theorem arw {i:Int} {n d:Nat}:(i+n - (i+d)).toNat=n - d:=by rw [Int.add_sub_add_left,FE]
theorem ans {i n:Int}:(i+n - i).toNat=n.toNat:=by rw [BL,DV]
theorem tz {i j:Int}:i+j - i=j:=by rw [BL,DV]
theorem ant {b:Int} (h:0 <b) (h1:b≤10000):b.natAbs <1073741824:=Int.ofNat_lt.mp (by rw [Ev (Bf h)];exact Az h1 (by decide))
theorem akb {a b c d:Int} (h:a <b) (h2:c <d):0 <min (b - a) (d - c):=Int.lt_min.mpr ⟨Fu h,Fu h2⟩
theorem exS {x:Int} {k:Nat} (h:0 <x) (hk:x.toNat≤k):∃ k',k=k'+1:=Nat.exists_eq_succ_of_ne_zero (Gg (B1 (Int.lt_toNat.mpr h) hk))
theorem tk {x M:Int} {k:Nat} (h:x.toNat≤k+1) (hM:0 <M):(x - M).toNat≤k:=Int.toNat_le.mpr (Ck (Bv (GA x hM) (Int.toNat_le.mp h)))
theorem sbl {a r i j:Int} (e:a+r=i):j=(r+(j - i))+a:=by
 subst e;rw [Int.add_right_comm,BL r a,BL (a+r),DU]
theorem sbe {i r b:Int}:i - r+b=i+(b - r):=by rw [E1,BJ,BL (-r),← E1]
theorem sb2 {i j r b:Int} (h:j <i - r+b):r+(j - i) <b:=Int.add_lt_of_lt_sub_left (Int.sub_left_lt_of_lt_add (sbe▸h))
theorem sb3 {i r b B:Int} {s j:Nat} (h:min (b - r) B=s) (hj:j <s):i+j <i - r+b:=by
 rw [sbe];exact CV (Bv (Int.ofNat_lt.mpr hj) (h▸Gz _ _)) i
theorem ts {x:Int} {s:Nat} (h:(s:Int)≤x):x.toNat=s+(x - s).toNat:=by
 refine aE (exA h) λk e=>?_
 subst e;rw [tz];rfl
theorem leN {i:Int} {k m:Nat} (h0:0≤i) (h1:i+k <m):k≤m:=Int.ofNat_le.mp (Bf (Az (DE h0) h1))
theorem dbs {d be s:Int}:d+(be+s) - be=d+s:=by rw [H9,tz]
theorem rbe {a m b i r:Int} (e:a+m=i) (hr:m=r):i+(b - r)=a+b:=by subst hr;subst e;rw [BJ,← Ft,tz]
theorem rbn {r:Nat} {b:Int} (h:(r:Int)≤b):((r+(b - r).toNat:Nat):Int)=b:=by
 refine aE (exA h) λk e=>?_
 subst e;rw [tz];rfl
theorem mx0 {i n:Nat}:(max 0 ((i:Int) - n)).toNat=i - n:=by
 rcases Nat.le_total n i with h | h
 ·rw [Cf (BO (Int.ofNat_le.mpr h)),FE]
 ·rw [EH (GS (Int.ofNat_le.mpr h)),Nat.sub_eq_zero_of_le h];rfl
theorem mx1 {k n m:Nat} (h:k≤m):max 0 ((k:Int) - n)≤m:=Int.max_le.mpr ⟨Av m,Au (GB _ (Av n)) (Int.ofNat_le.mpr h)⟩
theorem ai8 {k n:Nat} (h:k≤n):(max 0 (min (k:Int) n)).toNat=k:=by rw [I0 (Int.ofNat_le.mpr h),Cf (Av _),AX]
theorem m1 {n:Nat}:(-1:Int)+((n+1:Nat):Int)=n:=by rw [I1,H9];exact A9 _
theorem d4 {n s:Int} (h0:0≤s) (h1:s <4):(n * 4+s) / 4=n∧(n * 4+s) % 4=s:=by
 rw [BL,Int.add_mul_ediv_right _ _ (by decide),C6 h0 h1,EU,Int.add_mul_emod_self_right,Fv h0 h1];exact ⟨rfl,rfl⟩
theorem ar7 {m k l:Nat} (h:3 * (9 - m)+1≤k) (h2:m+1≤8) (h3:l≤2):3 * (9 - (m+1))+l <k:=by
 rw [Gh (Ia h2),Ib] at h
 rw [Ic]
 exact B1 (Ho (HK h3 (by decide:2 <4)) _) h
theorem akc {k:Int} (h:0≤k) (h1:k≤1000):k.natAbs <2 ^ 20:=Int.ofNat_lt.mp (by rw [Ev h];exact Az h1 (by decide))
theorem ary {i j:Int} (h:0≤j) (w:j <i):j.toNat <i.toNat:=(Int.toNat_lt_toNat (Az h w)).mpr w
theorem arz {x:Int} {a b:Int} (h:x <a) (hb:a≤b):¬ b≤x:=Int.not_le.mpr (Bv h hb)
end Mine
namespace Mine
open PySem PySem.W
noncomputable abbrev PM:=List (Addr × Obj)
noncomputable def aX:PM->Addr->Option Obj
 | [],_=>none
 | (a,o)::r,b=>match Gi a b with
  | true=>some o
  | false=>aX r b
structure PS where
 mem:PM
 n:Nat
 toks:Nat
structure xg (m:PM) (n:Nat) (h:Heap):Prop where
 size:h.objs.size=n
 at_:∀ a o,aX m a=some o->h.get? a=some o
set_option backward.match.sparseCases true in
noncomputable def ab0 (den:Code->Sem Fin) (p:Program) (w:World):PS->Thread->Option (PS × Thread)
 | ⟨m,n,k0⟩,⟨cur,code,pos,stack⟩=>match cur with
  | .pure (.again c)=>match stack with
   | .ret k h g l cd p kept::rest=>some (⟨m,n,k0⟩,⟨den c,c,pos,.ret k h g l cd p (keptBy code c l kept)::rest⟩)
   | _=>none
  | .pure (.done f)=>match stack with
   | .ret k _ _ _ c q _::rest=>some (⟨m,n,k0⟩,⟨k (.ok f),c,q,rest⟩)
   | _=>none
  | .raise e=>match stack with
   | .ret k _ _ _ c q _::rest=>some (⟨m,n,k0⟩,⟨k (.error e),c,q,rest⟩)
   | _=>none
  | .rule _ k=>some (⟨m,n,k0⟩,⟨k (),code,pos,stack⟩)
  | .at q k=>some (⟨m,n,k0⟩,⟨k (),code,q,stack⟩)
  | .point _ k=>some (⟨m,n,k0⟩,⟨k (),code,pos,stack⟩)
  | .load a _ k=>(aX m a).bind λo=>some (⟨m,n,k0⟩,⟨k o,code,pos,stack⟩)
  | .loadIfAlive a k=>(aX m a).bind λo=>some (⟨m,n,k0⟩,⟨k (some o),code,pos,stack⟩)
  | .update a _ f k=>(aX m a).bind λo=>bif (f o).isFreed then none else some (⟨(a,f o)::m,n,k0⟩,⟨k (),code,pos,stack⟩)
  | .alloc o k=>bif o.isFreed then none else some (⟨(n,o)::m,n+1,k0⟩,⟨k n,code,pos,stack⟩)
  | .fresh k=>some (⟨m,n,k0+1⟩,⟨k k0,code,pos,stack⟩)
  | .ask k=>some (⟨m,n,k0⟩,⟨k ⟨p,w.params⟩,code,pos,stack⟩)
  | .call c h g l k=>
   some (⟨m,n,k0⟩,⟨den c,c,pos,.ret k h g l code pos (match c,code with
    | .builtin _ a,_=>unmarked a.refs
    | .call f a,.builtin .. | .call f a,.call ..=>unmarked (if l.contains borrowed then a.refs else f::a.refs)
    | _,_=>[])::stack⟩)
  | .handled own k=>some (⟨m,n,k0⟩,⟨k (topHandled (if own then (match splitAtGen stack with | some (fs,_,_)=>fs | none=>stack) else stack)),code,pos,stack⟩)
  | .stack k=>some (⟨m,n,k0⟩,⟨k ((code,pos)::stack.map Frame.where_),code,pos,stack⟩)
  | _=>none
structure iD (m:PM) (h:Heap) (m':PM) (n':Nat) (h':Heap):Prop where
 rep:xg m' n' h'
 keep:∀ b o,h.get? b=some o->aX m b=none->h'.get? b=some o
 gone:∀ b o,h.get? b=some o->aX m b=none->aX m' b=none
theorem iD.refl {m:PM} {n:Nat} {h:Heap} (R:xg m n h):iD m h m n h:=⟨R,λb o x y=>x,λb o x y=>y⟩
theorem iD.trans {m m' m'':PM} {n' n'':Nat} {h h' h'':Heap} (a:iD m h m' n' h') (c:iD m' h' m'' n'' h''):iD m h m'' n'' h'':=
 ⟨c.rep,λb o x y=>c.keep b o (a.keep b o x y) (a.gone b o x y),λb o x y=>c.gone b o (a.keep b o x y) (a.gone b o x y)⟩
theorem kz (m:PM) (a b:Addr) (o:Obj):aX ((a,o)::m) b=if a=b then some o else aX m b:=
 (Gj (a=b)).elim (λq=>by rw [if_pos q,show aX ((a,o)::m) b=(match Gi a b with | true=>some o | false=>aX m b) from rfl,BT.beq_eq,decide_eq_true q])
  λq=>by rw [if_neg q,show aX ((a,o)::m) b=(match Gi a b with | true=>some o | false=>aX m b) from rfl,BT.beq_eq,decide_eq_false q]
theorem jD {a:Addr} {o:Obj} (l:PM) (e:aX l a=some o):(a,o)∈l:=by
 induction l with
 | nil=>cases e
 | cons p l ih=>
  cases p with | mk b ob=>?_
  rw [kz] at e
  by_cases q:b=a
  ·rw [if_pos q] at e
   rw [← q,← AH e];exact .head _
  ·rw [if_neg q] at e
   exact .tail _ (ih e)
theorem iD.cons {m:PM} {n':Nat} {h h':Heap} {a:Addr} {o:Obj} {n:Nat} (R:xg m n h) (hs:h'.objs.size=n') (ha:h'.get? a=some o) (hb:∀ b x,b≠a->h.get? b=some x->h'.get? b=some x)
 (hf:∀ x,h.get? a=some x->aX m a≠none):iD m h ((a,o)::m) n' h':=by
 have ne:∀ b x,h.get? b=some x->aX m b=none->a≠b:=λb x e y q=>by subst q;exact hf x e y
 refine ⟨⟨hs,λb x e=>?_⟩,λb x e y=>hb b x (ne b x e y).symm e,λb x e y=>by rw [kz,if_neg (ne b x e y)];exact y⟩
 rw [kz] at e
 by_cases q:a=b
 ·subst q
  rw [if_pos rfl] at e
  rw [← e];exact ha
 ·rw [if_neg q] at e
  exact hb b x (Fw q) (R.at_ b x e)
section
variable {den:Code->Sem Fin} {p:Program} {w:World} {m:PM} {n k:Nat} {h:Heap} {g:Array E2} {d:IT} {os:Fx}
def gZ (m:PM) (h:Heap) (g:Array E2) (d:IT) (os:Fx) (x:Option (PS × Thread)) (y:Step):Prop:=
 ∀ r,x=some r->∃ h',y=.go ⟨h',g,d,r.1.toks,os⟩ r.2∧iD m h r.1.mem r.1.n h'
theorem gZ.no {y:Step}:gZ m h g d os none y:=λr e=>by cases e
theorem gZ.go {m':PM} {n':Nat} {t:Thread} {h':Heap} {y:Step} (e:y=.go ⟨h',g,d,k,os⟩ t) (P:iD m h m' n' h'):gZ m h g d os (some (⟨m',n',k⟩,t)) y:=
 λr q=>by rw [← AH q];exact ⟨h',e,P⟩
theorem gZ.bind {α:Type} {x:Option α} {f:α->Option (PS × Thread)} {y:Step} (z:∀ o,x=some o->gZ m h g d os (f o) y):gZ m h g d os (x.bind f) y:=by
 cases x with
 | none=>exact gZ.no
 | some o=>exact z o rfl
theorem gZ.bif {b:Bool} {x:Option (PS × Thread)} {y:Step} (z:b=false->gZ m h g d os x y):gZ m h g d os (bif b then none else x) y:=by
 cases b with
 | true=>exact gZ.no
 | false=>exact z rfl
theorem ot {t:Thread} (R:xg m n h):gZ m h g d os (ab0 den p w ⟨m,n,k⟩ t) (step den p w ⟨h,g,d,k,os⟩ t):=by
 cases t with | mk cur code pos stack=>?_
 have P0:=iD.refl R
 cases cur with
 | pure f=>
  cases stack with
  | nil=>cases f <;> exact gZ.no
  | cons fr rest=>
   cases fr with
   | gen=>cases f <;> exact gZ.no
   | ret=>
    cases f with
    | done=>exact gZ.go rfl P0
    | again=>exact gZ.go step_again P0
 | raise=>
  cases stack with
  | nil=>exact gZ.no
  | cons fr rest=>
   cases fr with
   | gen=>exact gZ.no
   | ret=>exact gZ.go rfl P0
 | rule=>exact gZ.go rfl P0
 | «at»=>exact gZ.go rfl P0
 | point=>exact gZ.go rfl P0
 | ask=>exact gZ.go rfl P0
 | call=>exact gZ.go rfl P0
 | handled=>exact gZ.go rfl P0
 | stack=>exact gZ.go rfl P0
 | fresh=>exact gZ.go rfl P0
 | load a q kk=>exact gZ.bind λo ho=>gZ.go (by delta step;dsimp only;rw [R.at_ a o ho]) P0
 | loadIfAlive a kk=>exact gZ.bind λo ho=>gZ.go (by delta step;dsimp only;rw [R.at_ a o ho]) P0
 | alloc o kk=>
  refine gZ.bif λhf=>gZ.go (h':=h.push o) (by rw [← R.size];rfl) (iD.cons R (by rw [CY,R.size]) (by rw [← R.size];exact Ax _ hf) (λb x O e=>Aj _ e) λx e=>absurd (AZ e) ?_)
  rw [R.size]
  exact DK n
 | update a q f kk=>
  refine gZ.bind λo ho=>gZ.bif λhf=>?_
  have hg:=R.at_ a o ho
  have hs:BS a h (h.update a f):=Cr ..
  exact gZ.go (h':=h.update a f) (by delta step;dsimp only;rw [hg];rfl) (iD.cons R (by rw [hs.1,R.size]) (BX f hg hf) (λb x q e=>(hs.2 b q).trans e) λx O e=>by rw [ho] at e;cases e)
 | _=>exact gZ.no
end
noncomputable def anu (a:Option Flow) (ok:Bool) (x:Option (PS × Thread)) (s:PS) (t:Thread) (K:PS->Thread->Option (Flow × PS × Code × Pos)):Option (Flow × PS × Code × Pos):=match a with
 | some f=>some (f,s,t.code,t.pos)
 | none=>bif ok then x.bind λr=>K r.1 r.2 else none
noncomputable def xn (den:Code->Sem Fin) (p:Program) (w:World) (n₀:Nat) (ann:Option Ae) (b:Nat) (N:Nat):PS->Thread->Option (Flow × PS × Code × Pos):=
 N.rec (λO O=>none) λO K s t=>anu (endAt b t) (stepOk n₀ ann t) (ab0 den p w s t) s t K
theorem lG {α β:Type} {x:Option α} {f:α->Option β} {r:β} {G:Prop} (e:x.bind f=some r) (z:∀ q,x=some q->f q=some r->G):G:=by
 cases x with
 | none=>cases e
 | some q=>exact z q rfl e
theorem tA {β:Type} {b:Bool} {x:Option β} {r:β} {G:Prop} (e:(bif b then x else none)=some r) (z:b=true->x=some r->G):G:=by
 cases b with
 | false=>cases e
 | true=>exact z rfl e
theorem ab1 {a:Option Flow} {ok:Bool} {x:Option (PS × Thread)} {s:PS} {t:Thread} {K:PS->Thread->Option (Flow × PS × Code × Pos)} {r:Flow × PS × Code × Pos} {G:Prop} (e:anu a ok x s t K=some r)
 (h1:∀ f,a=some f->r=(f,s,t.code,t.pos)->G) (h2:a=none->ok=true->∀ q,x=some q->K q.1 q.2=some r->G):G:=by
 cases a with
 | some f=>exact h1 f rfl (AH e).symm
 | none=>exact tA e λh e=>lG e (h2 rfl h)
section
variable {tb:String->Option BW} {p:Program} {w:World} {n₀:Nat} {ann:Option Ae} {b:Nat} {g:Array E2} {d:IT} {os:Fx}
theorem xo (N:Nat):∀ {m:PM} {n k:Nat} {t:Thread} {h:Heap} {r:Flow × PS × Code × Pos},xn (denote tb) p w n₀ ann b N ⟨m,n,k⟩ t=some r->xg m n h->
 ∃ h',segRun tb p w n₀ ann b N ⟨h,g,d,k,os⟩ t=some (r.1,⟨h',g,d,r.2.1.toks,os⟩,r.2.2)∧iD m h r.2.1.mem r.2.1.n h':=by
 induction N with
 | zero=>intro m n k t h r e R;cases e
 | succ N ih=>
  intro m n k t h r e R
  show(ab1 e (λf ha hr=>⟨h,by unfold segRun;rw [ha,hr],by rw [hr];exact iD.refl R⟩) λha hk q hq e=>?_,an (ot (g:=g) (d:=d) (os:=os) R q hq) λh₁ s1 P1=>?_,an (ih e P1.rep) λh₂ s2 P2=>?_,⟨h₂,by unfold segRun;rw [ha,hk,s1];exact s2,P1.trans P2⟩)
end
end Mine
namespace Mine
open PySem PySem.W
noncomputable abbrev pw:=I2
noncomputable def den:Code->Sem Fin:=PySem.W.Fast.tw11892475500146522536 PySem.W.Fast.tw14364793385576792824
theorem xq:denote Hd=den:=by
 unfold den;rw [← PySem.W.Fast.te11892475500146522536,← PySem.W.Fast.te14364793385576792824]
end Mine
namespace Mine
set_option maxHeartbeats 0
open PySem PySem.W
noncomputable def prs:Nat->Nat->List (Int × Nat)
 | 0,_=>[]
 | k+1,N=>(Int.ofNat (N % 4096),N / 4096 % 4096)::prs k (N / 16777216)
noncomputable def au (P:Params) (x:String) (t:Nat) (v:Ae):Bi:=⟨CZ P (Ab x),.str (Ab x) t,v⟩
noncomputable def mQ (l:List (Int × Nat)):Obj:={ cls:=.none,data:=.fields (l.flatMap λp=>[.int p.1 0,.int 0 0,.ref p.2]).toArray }
noncomputable def mR:Obj:={ cls:=.type "code",data:=.fields #[.str "<module>" 182,.str "<module>" 183,.str "/claim/cut.py" 184,.int 1 0,.int 0 0,.int 0 0,.int 0 0,.int 0 0,.ref 11,.bool false,.int 181 0,.ref 12,.none,.none,.none,.none,.int 185 0,.int 1 0,.str "/claim/cut.py" 186] }
noncomputable def rE:Env:={ scope:=pw.main.scope,locals:=HL,globals:=HL,cells:=[],code:=.ref 13,frame:=some 14 }
noncomputable def cC:Code:=.body (AS pw) rE
noncomputable def er (P:Params) (l:List String) (N:Nat):List Bi:=(l.zip (prs l.length N)).map λx=>au P x.1 x.2.1.toNat (.ref x.2.2)
noncomputable def nt0 (P:Params):List Bi:=[au P "__doc__" 166 (.none),au P "__package__" 167 (.none),au P "__loader__" 168 (.builtin "__main__.__loader__#opaque"),au P "__spec__" 169 (.none)]++er P ["__annotations__","__builtins__"] 0x40ab0060aa++[au P "__file__" 173 (.str "/claim/cut.py" 172),au P "__cached__" 174 (.none)]
noncomputable def ns0 (P:Params):List Bi:=(au P "__name__" 165 (.str "__main__" 164))::nt0 P
noncomputable def st0 (P:Params):List Bi:=[]
noncomputable def tb0:List (Int × Nat):=[]
noncomputable def ake (P:Params):List Obj:=[⟨.type "dict",none,.dict (ns0 P).toArray 9,#[]⟩,⟨.none,none,.dict (st0 P).toArray 0,#[]⟩,mQ tb0]
noncomputable def akf (P:Params):PM:=(match ake P with | [a,c,d]=>[(3,a),(12,d),(2,c)] | _=>[])++[(13,mR),(0,E8 P),(4,Ew P)]
noncomputable def anv (P:Params):List Bi:=nt0 P++(er P ["_wall","PoolFault","Corrupt","NoSpace","Missing","Exists","Misused","InvalidName","InvalidPath","NotFolder","IsFolder","NotEmpty","Loops","made","done","replayed","number_of","octets_of","text_octets","octets_text","Sink","Cursor","padded"] 0x14024f1352471032080d61cb0d11c50cc1bf0c71b90c21b10bb1a60b419d0ab19009f18009317008716007b15006f14006313005712004b11003f1000330f00260e00150c1)
noncomputable def ar0 (P:Params):List Bi:=(au P "__name__" 165 (.str "treepool.octets" 434))::anv P
noncomputable def ab2 (P:Params):List Bi:=[au P "type.__subclasses__.Exception.0" 221 (.int 38 0),au P "type.__subclasses__.Exception.n" 222 (.int 1 0)]
noncomputable def anw:List (Int × Nat):=prs 23 0x13f07a10d0650dc0530d504f0d004a0cb0460c60440c103d0ba02d0b30210a701e09b01c08f01a08301807701606b01405f01205301004700e03b00c02f00a01b005014001
noncomputable def age (P:Params):List Obj:=[⟨.type "dict",none,.dict (ar0 P).toArray 32,#[]⟩,⟨.none,none,.dict (ab2 P).toArray 2,#[]⟩,mQ anw]
noncomputable def aja (P:Params):PM:=(match age P with | [a,c,d]=>[(3,a),(12,d),(2,c)] | _=>[])++[(13,mR),(0,E8 P),(4,Ew P)]
noncomputable def anx (P:Params):List Bi:=anv P++([au P "BITS" 595 (.int 32 594)]++er P ["zap_hash","first_bits","salt_of"] 0x15526c14e26514725d++[au P "MICRO" 624 (.int 1 623),au P "FAT" 626 (.int 2 625),au P "LEAF" 628 (.int 3 627),au P "MICRO_HEAD" 630 (.int 7 629),au P "FAT_HEAD" 632 (.int 18 631),au P "LEAF_HEAD" 634 (.int 8 633),au P "NUMBER" 636 (.int 8 635),au P "PLACE_zapform" 638 (.int 4 637),au P "CHAINS" 640 (.int 4 639),au P "LINK" 642 (.int 2 641),au P "ENTRY" 644 (.int 15 643),au P "LONGEST" 646 (.int 28 645)]++er P ["want_row","micro_octets","micro_rows","FatHead","fat_head","sort_of","leaf_octets","want_leaf","entry_at","leaf_find","leaf_rows","leaf_bits","first_block","block_at","table_entry"] 0x1d13421ca3371c332d1bc3231b531c1ae30e1a72ff1a02f31992ec1942e618d2df1822d316a2a616329b15c28e)
noncomputable def ar3 (P:Params):List Bi:=(au P "__name__" 165 (.str "treepool.zapread" 804))::anx P
noncomputable def ar4:=ab2
noncomputable def anz:List (Int × Nat):=anw++prs 18 0x1d00f71c90f51c20f31bb0ef1b40e71ad0db1a60d519f0d21980c41930c018c0b91700ad1690a716209d15b09815408914d087146080
noncomputable def agf (P:Params):List Obj:=[⟨.type "dict",none,.dict (ar3 P).toArray 63,#[]⟩,⟨.none,none,.dict (ar4 P).toArray 2,#[]⟩,mQ anz]
noncomputable def ajb (P:Params):PM:=(match agf P with | [a,c,d]=>[(3,a),(12,d),(2,c)] | _=>[])++[(13,mR),(0,E8 P),(4,Ew P)]
noncomputable def ajc (P:Params):List Bi:=anx P++(er P ["table_of","zap_find","zap_all","Shape","many_of"] 0x1ff3a01f43981e235a1db34e1d6348++[au P "MOST_BITS" 932 (.int 16 931)]++er P ["new_zap","zap_put","zap_take","make_fat","put_head","leaf_for","put_leaf","put_fat","grow_table","part_leaf"] 0x23b3fb2363f52313ef22c3e92253da21e3cf2173c62103ba20b3b42063ae++[au P "SORTS" 1023 (.int 4 1022),au P "MOST_SIGNS" 1025 (.int 28 1024)]++er P ["is_entry_name","want_entry_name","look_up","put_entry","take_entry","entries","is_empty"] 0x26843b26143325c42d25542324e41824740e240407++[au P "FILE_SORT" 1087 (.int 0 1086),au P "FOLDER_SORT" 1089 (.int 1 1088),au P "LINK_SORT" 1091 (.int 2 1090),au P "ZNODE" 1105 (.int 21 1104)]++er P ["Znode","znode_octets","znode_of","load_znode","store_znode"] 0x2a04a92994a029249828b489280481++[au P "MOST_LINKS" 1197 (.int 8 1196)]++er P ["parts_of","parts_of_pathwalk","link_target","want_folder","start_of","walked","ahead_of","is_within"] 0x2cd4f12c64e72bf4dc2b84cc2b14c32aa4ba2a54b42a54b3++[au P "MASTER_OBJECT" 1269 (.int 1 1268)])
noncomputable def an0 (P:Params):List Bi:=(au P "__name__" 165 (.str "treepool.fileread" 1266))::ajc P
noncomputable def an1:=ab2
noncomputable def ajd:List (Int × Nat):=anz++prs 34 0x2cc1e72c51e02be1ca2b71c82b01c52a91c22a41bf29f1bb2981b92911b028a1a626e19926719226019025b18a25418724d18424618123f17d23a16c23516223015322b14c22414a21d14821614120f13320a1252051201fe11c1e810e1e11051da0fc1d50f9
noncomputable def ab3 (P:Params):List Obj:=[⟨.type "dict",none,.dict (an0 P).toArray 107,#[]⟩,⟨.none,none,.dict (an1 P).toArray 2,#[]⟩,mQ ajd]
noncomputable def ab4 (P:Params):PM:=(match ab3 P with | [a,c,d]=>[(3,a),(12,d),(2,c)] | _=>[])++[(13,mR),(0,E8 P),(4,Ew P)]
noncomputable def aje (P:Params):List Bi:=ajc P++([au P "ROOT_NAME" 1271 (.str "root" 1270)]++er P ["FileView"] 0x31d56e++[au P "NONE" 1392 (.int 0 1391),au P "DNODES" 1394 (.int 3 1393),au P "OBJSET" 1396 (.int 4 1395),au P "FILE" 1398 (.int 8 1397),au P "FOLDER" 1400 (.int 9 1399),au P "MASTER" 1402 (.int 14 1401),au P "UNLINKED" 1404 (.int 15 1403),au P "MANY_KINDS" 1406 (.int 18 1405),au P "PLAIN" 1408 (.int 0 1407),au P "MANY_PACKINGS" 1410 (.int 4 1409),au P "OFF" 1412 (.int 0 1411),au P "FLETCHER4" 1414 (.int 2 1413),au P "MANY_SUMS" 1416 (.int 4 1415),au P "UNLINKED_NAME" 1420 (.str "unlinked" 1419),au P "MOST_MODE" 1422 (.int 65535 1421),au P "MOST_SIZE" 1428 (.int 4294967295 1427)]++er P ["make_tree","FileTree"] 0x3cd69d32859d++[au P "MOST_PLACES" 1697 (.int 3 1696),au P "PLACE_pointers" 1699 (.int 7 1698),au P "POINTER" 1721 (.int 53 1720),au P "PARTS" 1725 (.int 22 1724)]++er P ["Rules","Pointer","meta_rules","is_same","dsize","pointer_octets","pointer_of","pointers_octets","pointers_of","Heap"] 0x46c7a642c74a42774442273e41d73841873241372c40c72440071c3e36e2++[au P "BONUS" 1962 (.int 32 1961),au P "DNODE" 1976 (.int 97 1975)])
noncomputable def an2 (P:Params):List Bi:=(au P "__name__" 165 (.str "treepool.dnodes" 1959))::aje P
noncomputable def an3:=ab2
noncomputable def ajf:List (Int × Nat):=ajd++prs 13 0x43232f42b32c42632a42131841c30e41730c41230840b3063ed2f43d72ed32e2413272392d31f1
noncomputable def ab5 (P:Params):List Obj:=[⟨.type "dict",none,.dict (an2 P).toArray 143,#[]⟩,⟨.none,none,.dict (an3 P).toArray 2,#[]⟩,mQ ajf]
noncomputable def ab6 (P:Params):PM:=(match ab5 P with | [a,c,d]=>[(3,a),(12,d),(2,c)] | _=>[])++[(13,mR),(0,E8 P),(4,Ew P)]
noncomputable def an4 (P:Params):List Bi:=(aje P).set 97 (au P "parts_of" 1203 (.ref 1371))++([au P "MOST_LEVELS" 1978 (.int 12 1977)]++er P ["Dnode","dnode_octets","dnode_of"] 0x4a281049b8014907f7++[au P "MOST_BLOCKS" 2072 (.int 16777215 2071)]++er P ["levels_for","most_blocks","find_pointer","beneath","pointers","fill_of","are_same","TreeWriter","write_blocks","cut","cut_trees","drop_tree"] 0x52a8ea5238de5238dd51c8cd5138c74d085b4cb8554c684f4be8444b78364b08294a9822++[au P "WORDS" 2286 (.int 4 2285),au P "DNODES_OBJECT" 2288 (.int 0 2287),au P "SET" 2295 (.int 183 2294)]++er P ["SetHead","set_octets","set_of","parts_of_setview","SetView"] 0x5ad9b955b94355493454f92e544925++[au P "MOST_BLOCK" 2495 (.int 65536 2494)]++er P ["Change","ObjectSet","_law_record","_law_goal","_law_is_room","_law_octets","_law_after","_law_tells","_law_tree","law"] 0x69db19698b13691b0d68cb07685af867eaf0677ae8670ade667ad65c99e9)
noncomputable def an5 (P:Params):List Bi:=(au P "__name__" 165 (.str "law_np0227_01" 2775))::an4 P
noncomputable def an6:=ab2
noncomputable def an7:List (Int × Nat):=ajf++prs 29 0x69c58769758569057e68b56368455c67d55a67655366f5465d349c5b748f56144555a43a55343354e42b53042152941952240d51b4024d63ae4cf3ac4ca3a84c53a64bd39e4b63944af3924a838d4a137e49a377476364
noncomputable def pG (P:Params):List Obj:=[⟨.type "dict",none,.dict (an5 P).toArray 179,#[]⟩,⟨.none,none,.dict (an6 P).toArray 2,#[]⟩,mQ an7]
noncomputable def tB (P:Params):PM:=(match pG P with | [a,c,d]=>[(3,a),(12,d),(2,c)] | _=>[])++[(13,mR),(0,E8 P),(4,Ew P)]
noncomputable def zI:List Nat->Stmt
 | [i]=>(AS pw)[i]?.getD (.Pass default)
 | [i,j]=>match (AS pw)[i]? with
  | some (.ClassDef _ _ _ b _ _ _ _ _ _ _)=>b[j]?.getD (.Pass default)
  | _=>.Pass default
 | _=>.Pass default
noncomputable def fdOf (s:Stmt) (q:Str) (dV pm cd:Ae):Ap:=match s with
 | .FunctionDef name args body _ _ _ scope _ _ _=>{ name,qualname:=q,params:=args,body:=.stmts body,scope,globals:=HL,closure:=[],defaults:=dV,kwdefaults:=.none,doc:=.none,pyModule:=pm,code:=cd,builtins:=0 }
 | _=>default
noncomputable def bi (p:List Nat) (q:Str) (d:Ae) (m:Str) (t c:Nat):Ap:=fdOf (zI p) q d (.str m t) (.ref c)
noncomputable def ar5 (a b:Str) (t l x1 x2 x3 x4:Nat) (v1:Ae) (y:Nat) (v2 v3 v4 v5 v6:Ae) (k t4:Nat):Obj:=⟨.type "code",none,.fields #[.str a t,.str b (t+1),.str "/claim/cut.py" (t+2),.int l 0,.int x1 0,.int x2 0,.int x3 0,.int x4 0,v1,.bool true,.int y 0,v2,v3,v4,v5,v6,.int k 0,.int l 0,.str "/claim/cut.py" t4],#[]⟩
noncomputable def ar6 (p:List Nat) (q:Str) (d:Ae) (m:Str) (t c:Nat):Obj:=⟨.type "function",none,.func (bi p q d m t c),#[]⟩
noncomputable def eX (n:Str) (bs mr:List Ae) (ns:Nat) (sb:List Ae) (sl:Array (Option Ae)):Obj:=⟨.type "type",none,.cls { name:=n,bases:=bs,mro:=mr,ns:=ns,qualname:=n,hasDict:=true,subclasses:=sb,abstract:=false,hasDel:=false },sl⟩
noncomputable def moT:List (Nat × Str):=[(194,"treepool.faults"),(401,"treepool.replays"),(434,"treepool.octets"),(592,"treepool.zaphash"),(621,"treepool.zapform"),(804,"treepool.zapread"),(859,"treepool.shape"),(929,"treepool.zaps"),(1020,"treepool.names"),(1084,"treepool.znodes"),(1194,"treepool.pathwalk"),(1266,"treepool.fileread"),(1417,"treepool.files"),(1867,"treepool.heap"),(1959,"treepool.dnodes"),(2065,"treepool.trees"),(2283,"treepool.setview"),(2490,"treepool.objsets"),(2775,"law_np0227_01")]
noncomputable def dg (N i:Nat):Nat:=N / 4096 ^ i % 4096
noncomputable def fA (n q:Str) (d:Ae) (N:Nat):Frag:=let a:=dg N 0;let r i:=Dw (a - i);let b:=dg N 1==1;let s i:=if b then r i else .none;let k:=dg N 7
 [(a,ar5 n q (dg N 4) (dg N 5) (dg N 6) 0 0 3 (if b then r 5 else r 3) 181 (if b then r 4 else r 2) .none (s 3) (s 2) (r 1) k (k+1)),(a+1,ar6 (if dg N 3==4095 then [dg N 2] else [dg N 2,dg N 3]) q d ((moT.lookup (dg N 8)).getD default) (dg N 8) a)]
noncomputable def fP (n:Str) (N:Nat):Frag:=fA n n .none N
noncomputable def k26 (P:Params):Frag:=[fA "__init__" "PoolFault.__init__" .none 0xc20d50020070d0000002001022,
 [(37,⟨.type "dict",none,.dict #[au P "__module__" 203 (.str "treepool.faults" 194),au P "__firstlineno__" 207 (.int 5 206),au P "__init__" 215 (.ref 35),au P "__static_attributes__" 217 (.ref 36),au P "__weakref__" 219 (.ref 39),au P "__doc__" 220 (.none)] 3,#[]⟩),(38,eX "PoolFault" [.type "Exception"] [.ref 38,.type "Exception",.type "BaseException",.type "object"] 37 [.ref 51,.ref 63,.ref 75,.ref 87,.ref 99,.ref 111,.ref 123,.ref 135,.ref 147,.ref 159,.ref 171] #[some (.ref 22),none,some (.str "PoolFault" 196),some (.str "PoolFault" 204),some (.builtin "Exception.__new__"),some (.bool true)]),(50,⟨.type "dict",none,.dict #[au P "__module__" 232 (.str "treepool.faults" 194),au P "__firstlineno__" 236 (.int 10 235),au P "__static_attributes__" 237 (.ref 49),au P "__doc__" 238 (.none)] 2,#[]⟩),(51,eX "Corrupt" [.ref 38] [.ref 51,.ref 38,.type "Exception",.type "BaseException",.type "object"] 50 [] #[some (.ref 42),none,some (.str "Corrupt" 225),some (.str "Corrupt" 233),some (.builtin "Exception.__new__"),some (.bool true)]),(74,⟨.type "dict",none,.dict #[au P "__module__" 264 (.str "treepool.faults" 194),au P "__firstlineno__" 268 (.int 14 267),au P "__static_attributes__" 269 (.ref 73),au P "__doc__" 270 (.none)] 2,#[]⟩),(75,eX "Missing" [.ref 38] [.ref 75,.ref 38,.type "Exception",.type "BaseException",.type "object"] 74 [] #[some (.ref 66),none,some (.str "Missing" 257),some (.str "Missing" 265),some (.builtin "Exception.__new__"),some (.bool true)]),(86,⟨.type "dict",none,.dict #[au P "__module__" 280 (.str "treepool.faults" 194),au P "__firstlineno__" 284 (.int 16 283),au P "__static_attributes__" 285 (.ref 85),au P "__doc__" 286 (.none)] 2,#[]⟩),(87,eX "Exists" [.ref 38] [.ref 87,.ref 38,.type "Exception",.type "BaseException",.type "object"] 86 [] #[some (.ref 78),none,some (.str "Exists" 273),some (.str "Exists" 281),some (.builtin "Exception.__new__"),some (.bool true)]),(98,⟨.type "dict",none,.dict #[au P "__module__" 296 (.str "treepool.faults" 194),au P "__firstlineno__" 300 (.int 18 299),au P "__static_attributes__" 301 (.ref 97),au P "__doc__" 302 (.none)] 2,#[]⟩),(99,eX "Misused" [.ref 38] [.ref 99,.ref 38,.type "Exception",.type "BaseException",.type "object"] 98 [] #[some (.ref 90),none,some (.str "Misused" 289),some (.str "Misused" 297),some (.builtin "Exception.__new__"),some (.bool true)]),(110,⟨.type "dict",none,.dict #[au P "__module__" 312 (.str "treepool.faults" 194),au P "__firstlineno__" 316 (.int 20 315),au P "__static_attributes__" 317 (.ref 109),au P "__doc__" 318 (.none)] 2,#[]⟩),(111,eX "InvalidName" [.ref 38] [.ref 111,.ref 38,.type "Exception",.type "BaseException",.type "object"] 110 [] #[some (.ref 102),none,some (.str "InvalidName" 305),some (.str "InvalidName" 313),some (.builtin "Exception.__new__"),some (.bool true)]),(122,⟨.type "dict",none,.dict #[au P "__module__" 328 (.str "treepool.faults" 194),au P "__firstlineno__" 332 (.int 22 331),au P "__static_attributes__" 333 (.ref 121),au P "__doc__" 334 (.none)] 2,#[]⟩),(123,eX "InvalidPath" [.ref 38] [.ref 123,.ref 38,.type "Exception",.type "BaseException",.type "object"] 122 [] #[some (.ref 114),none,some (.str "InvalidPath" 321),some (.str "InvalidPath" 329),some (.builtin "Exception.__new__"),some (.bool true)]),(134,⟨.type "dict",none,.dict #[au P "__module__" 344 (.str "treepool.faults" 194),au P "__firstlineno__" 348 (.int 24 347),au P "__static_attributes__" 349 (.ref 133),au P "__doc__" 350 (.none)] 2,#[]⟩),(135,eX "NotFolder" [.ref 38] [.ref 135,.ref 38,.type "Exception",.type "BaseException",.type "object"] 134 [] #[some (.ref 126),none,some (.str "NotFolder" 337),some (.str "NotFolder" 345),some (.builtin "Exception.__new__"),some (.bool true)]),(146,⟨.type "dict",none,.dict #[au P "__module__" 360 (.str "treepool.faults" 194),au P "__firstlineno__" 364 (.int 26 363),au P "__static_attributes__" 365 (.ref 145),au P "__doc__" 366 (.none)] 2,#[]⟩),(147,eX "IsFolder" [.ref 38] [.ref 147,.ref 38,.type "Exception",.type "BaseException",.type "object"] 146 [] #[some (.ref 138),none,some (.str "IsFolder" 353),some (.str "IsFolder" 361),some (.builtin "Exception.__new__"),some (.bool true)]),(158,⟨.type "dict",none,.dict #[au P "__module__" 376 (.str "treepool.faults" 194),au P "__firstlineno__" 380 (.int 28 379),au P "__static_attributes__" 381 (.ref 157),au P "__doc__" 382 (.none)] 2,#[]⟩),(159,eX "NotEmpty" [.ref 38] [.ref 159,.ref 38,.type "Exception",.type "BaseException",.type "object"] 158 [] #[some (.ref 150),none,some (.str "NotEmpty" 369),some (.str "NotEmpty" 377),some (.builtin "Exception.__new__"),some (.bool true)]),(170,⟨.type "dict",none,.dict #[au P "__module__" 392 (.str "treepool.faults" 194),au P "__firstlineno__" 396 (.int 30 395),au P "__static_attributes__" 397 (.ref 169),au P "__doc__" 398 (.none)] 2,#[]⟩),(171,eX "Loops" [.ref 38] [.ref 171,.ref 38,.type "Exception",.type "BaseException",.type "object"] 170 [] #[some (.ref 162),none,some (.str "Loops" 385),some (.str "Loops" 393),some (.builtin "Exception.__new__"),some (.bool true)])],
 fP "made" 0x19119b002021193fff00f0010b3,
 fP "done" 0x1911a400202d19efff0100010ba,
 fP "replayed" 0x1911af00303d1a7fff0110010c1,
 fP "number_of" 0x1b21b70010441b4fff0130000c6,
 fP "octets_of" 0x1b21bd0020461bafff0140000cb,
 fP "text_octets" 0x1b21c300104a1c0fff0150000d0,
 fP "octets_text" 0x1b21c900104f1c6fff0160000d5,
 fA "__init__" "Sink.__init__" .none 0x1b21dc0010551d80000170010e3,
 fA "number" "Sink.number" .none 0x1b21e50030581df0010170010ea,
 fA "text" "Sink.text" .none 0x1b21f600205e1f00030170010f8,
 fA "whole" "Sink.whole" .none 0x1b21fd0010631f90040170010ff,
 [(258,⟨.type "dict",none,.dict #[au P "__module__" 467 (.str "treepool.octets" 434),au P "__firstlineno__" 471 (.int 83 470),au P "__init__" 478 (.ref 228),au P "number" 487 (.ref 235),au P "put" 495 (.ref 242),au P "text" 504 (.ref 249),au P "whole" 511 (.ref 256),au P "__static_attributes__" 513 (.ref 257),au P "__dict__" 515 (.ref 260),au P "__weakref__" 517 (.ref 261),au P "__doc__" 518 (.none)] 4,#[]⟩),(259,eX "Sink" [.type "object"] [.ref 259,.type "object"] 258 [] #[none,none,some (.str "Sink" 460),some (.str "Sink" 468),some (.builtin "object.__new__"),some (.bool true)]),(271,⟨.type "tuple",none,.seq #[.int 0 533] 0,#[]⟩)],
 fA "__init__" "Cursor.__init__" (.ref 271) 0x1b221c003067216000018001115,
 fA "left" "Cursor.left" .none 0x1b222300106b21f00101800111c,
 fA "take" "Cursor.take" .none 0x1b222c00206e226002018001123,
 fA "number" "Cursor.number" .none 0x1b223400207522f00301800112a,
 fA "text" "Cursor.text" .none 0x1b223b001078237004018001131,
 [(308,⟨.type "dict",none,.dict #[au P "__module__" 528 (.str "treepool.octets" 434),au P "__firstlineno__" 532 (.int 101 531),au P "__init__" 542 (.ref 278),au P "left" 549 (.ref 285),au P "take" 558 (.ref 292),au P "number" 566 (.ref 299),au P "text" 573 (.ref 306),au P "__static_attributes__" 576 (.ref 307),au P "__dict__" 578 (.ref 310),au P "__weakref__" 580 (.ref 311),au P "__doc__" 581 (.none)] 4,#[]⟩),(309,eX "Cursor" [.type "object"] [.ref 309,.type "object"] 308 [] #[none,none,some (.str "Cursor" 521),some (.str "Cursor" 529),some (.builtin "object.__new__"),some (.bool true)])],
 fP "padded" 0x1b224d00207a248fff01900113f].flatten
noncomputable def k60 (P:Params):Frag:=[fP "salt_of" 0x25026a001089266fff01e001154,
 fP "want_row" 0x26d28c002098287fff02c00115b,
 fP "micro_octets" 0x26d29900309d28ffff02d001162,
 fP "micro_rows" 0x26d2a40010a729cfff02e001169,
 fP "sort_of" 0x26d2e40010c02e0fff031001193,
 fP "first_block" 0x32432b0020f3326fff0390011c2].flatten
noncomputable def akg (P:Params):Frag:=[fP "zap_find" 0x32434c0030fc349fff03d0001da,
 fP "zap_all" 0x32435800210534ffff03e0011e1,
 [(490,⟨.type "tuple",none,.seq #[.int 16 873,.int 32 874,.int 32 875,.int 4 876,.int 4 877,.int 4 878,.int 2 879,.int 128 880,.int 192 881,.int 160 882,.int 128 883] 0,#[]⟩)],
 fA "__init__" "Shape.__init__" (.ref 490) 0x35b38300c1103740000400011f0,
 [(499,⟨.type "dict",none,.dict #[au P "__module__" 868 (.str "treepool.shape" 859),au P "__firstlineno__" 872 (.int 270 871),au P "__init__" 901 (.ref 497),au P "__static_attributes__" 913 (.ref 498),au P "__dict__" 915 (.ref 501),au P "__weakref__" 917 (.ref 502),au P "__doc__" 918 (.none)] 4,#[]⟩),(500,eX "Shape" [.type "object"] [.ref 500,.type "object"] 499 [] #[none,none,some (.str "Shape" 861),some (.str "Shape" 869),some (.builtin "object.__new__"),some (.bool true)])],
 fP "new_zap" 0x3a13ac0021203a5fff044001205,
 fP "zap_put" 0x3a13b20041253affff04500020a,
 fP "zap_take" 0x3a13b80031333b5fff04600020f,
 fP "is_entry_name" 0x3fc40500117d402fff05100023f,
 fP "want_entry_name" 0x3fc40c001181408fff052001246,
 fP "look_up" 0x3fc41600318440ffff05300124d,
 fP "put_entry" 0x3fc421005187419fff054001254,
 fP "take_entry" 0x3fc42b00318a424fff05500125b,
 fP "entries" 0x3fc43100219042efff056000260,
 fP "is_empty" 0x3fc439002192434fff057001267,
 fA "__init__" "Znode.__init__" .none 0x43c46900819b45e00005d001275,
 [(639,⟨.type "dict",none,.dict #[au P "__module__" 1113 (.str "treepool.znodes" 1084),au P "__firstlineno__" 1117 (.int 409 1116),au P "__init__" 1131 (.ref 630),au P "plain" 1138 (.ref 637),au P "__static_attributes__" 1146 (.ref 638),au P "__dict__" 1148 (.ref 641),au P "__weakref__" 1150 (.ref 642),au P "__doc__" 1151 (.none)] 4,#[]⟩),(640,eX "Znode" [.type "object"] [.ref 640,.type "object"] 639 [] #[none,none,some (.str "Znode" 1106),some (.str "Znode" 1114),some (.builtin "object.__new__"),some (.bool true)])],
 fP "znode_octets" 0x43c4870011a6482fff05e00128a,
 fP "znode_of" 0x43c4960011b048afff05f001291,
 fP "load_znode" 0x43c49e0021b9499fff060001298,
 fP "store_znode" 0x43c4a70031bb4a1fff06100129f,
 fP "parts_of" 0x4aa4b10011bf4aefff0640002a4,
 fP "link_target" 0x4aa4b80021c24b5fff0660002a9,
 fP "want_folder" 0x4aa4c10031c54bbfff0670012b0,
 fP "start_of" 0x4aa4ca0031c84c4fff0680012b7,
 fP "walked" 0x4aa4da0041ca4cdfff0690012be,
 fP "ahead_of" 0x4aa4e50031e04ddfff06a0012c5,
 fP "is_within" 0x4aa4ef0031e74e8fff06b0012cc].flatten
noncomputable def akh (P:Params):Frag:=[fA "__init__" "FileView.__init__" .none 0x4f25090021f350400006f0012da,
 [(732,⟨.type "tuple",none,.seq #[.bool true] 0,#[]⟩)],
 fA "find" "FileView.find" (.ref 732) 0x4f25120031f750c00106f0012e2,
 fA "octets" "FileView.octets" .none 0x4f25260041fd51e00306f0012f1,
 fA "below" "FileView.below" .none 0x4f254f00421554300706f00130b,
 fA "all_paths" "FileView.all_paths" .none 0x4f255600121d55200806f001312,
 fA "contents" "FileView.contents" .none 0x4f256200122055900906f001319,
 [(796,⟨.type "dict",none,.dict #[au P "__module__" 1279 (.str "treepool.fileread" 1266),au P "__firstlineno__" 1283 (.int 497 1282),au P "__init__" 1291 (.ref 731),au P "find" 1300 (.ref 739),au P "stat" 1309 (.ref 747),au P "octets" 1320 (.ref 754),au P "read" 1331 (.ref 761),au P "target" 1340 (.ref 768),au P "names" 1346 (.ref 773),au P "below" 1361 (.ref 780),au P "all_paths" 1368 (.ref 787),au P "contents" 1380 (.ref 794),au P "__static_attributes__" 1383 (.ref 795),au P "__dict__" 1385 (.ref 798),au P "__weakref__" 1387 (.ref 799),au P "__doc__" 1388 (.none)] 4,#[]⟩),(797,eX "FileView" [.type "object"] [.ref 797,.type "object"] 796 [] #[none,none,some (.str "FileView" 1272),some (.str "FileView" 1280),some (.builtin "object.__new__"),some (.bool true)])],
 fP "make_tree" 0x58959b002239595fff081001327,
 fA "__init__" "FileTree.__init__" .none 0x5895b00032435aa000082001335,
 [(823,⟨.type "tuple",none,.seq #[.none] 0,#[]⟩)],
 fA "change" "FileTree.change" (.ref 823) 0x5895bb00424a5b300108200133d,
 fA "place_for" "FileTree.place_for" .none 0x5895c50022525be002082001344,
 fA "want_mode" "FileTree.want_mode" .none 0x5895cd0022595c800308200134b,
 fA "add_file" "FileTree.add_file" .none 0x5895db00425d5d0004082001352,
 fA "create" "FileTree.create" .none 0x5895e40032665de005082001359,
 fA "make_dir" "FileTree.make_dir" .none 0x5895f00032695e7006082001360,
 fA "symlink" "FileTree.symlink" .none 0x5895fb0032725f3007082001367,
 fA "link" "FileTree.link" .none 0x58960800327b5fe00808200136e,
 fA "file_at" "FileTree.file_at" .none 0x58961100228560b009082001375,
 fA "write" "FileTree.write" .none 0x58961c00428b61400a08200137c,
 fA "truncate" "FileTree.truncate" .none 0x58962600329361f00b082001383,
 fA "set_mode" "FileTree.set_mode" .none 0x58963100329b62900c08200138a,
 fA "drop_name" "FileTree.drop_name" .none 0x5896390022a263400d082001391,
 fA "remove" "FileTree.remove" .none 0x5896450022aa63c00e082001398,
 fA "remove_dir" "FileTree.remove_dir" .none 0x5896500022b264800f08200139f,
 fA "make_room" "FileTree.make_room" .none 0x58965b0032bc6530100820013a6,
 fA "rename" "FileTree.rename" .none 0x58966b0032c865e0110820013ad,
 fA "moved" "FileTree.moved" .none 0x5896770042d866e0120820013b4,
 [(972,⟨.type "dict",none,.dict #[au P "__module__" 1445 (.str "treepool.files" 1417),au P "__firstlineno__" 1449 (.int 577 1448),au P "__init__" 1458 (.ref 822),au P "change" 1469 (.ref 830),au P "place_for" 1479 (.ref 837),au P "want_mode" 1487 (.ref 844),au P "add_file" 1501 (.ref 851),au P "create" 1510 (.ref 858),au P "make_dir" 1522 (.ref 865),au P "symlink" 1533 (.ref 872),au P "link" 1546 (.ref 879),au P "file_at" 1555 (.ref 886),au P "write" 1566 (.ref 893),au P "truncate" 1576 (.ref 900),au P "set_mode" 1587 (.ref 907),au P "drop_name" 1595 (.ref 914),au P "remove" 1607 (.ref 921),au P "remove_dir" 1618 (.ref 928),au P "make_room" 1629 (.ref 935),au P "rename" 1645 (.ref 942),au P "moved" 1657 (.ref 949),au P "open_file" 1665 (.ref 956),au P "shut_file" 1673 (.ref 963),au P "clear_unlinked" 1680 (.ref 970),au P "__static_attributes__" 1686 (.ref 971),au P "__dict__" 1688 (.ref 974),au P "__weakref__" 1690 (.ref 975),au P "__doc__" 1691 (.none)] 4,#[]⟩),(973,eX "FileTree" [.type "object"] [.ref 973,.type "object"] 972 [] #[none,none,some (.str "FileTree" 1438),some (.str "FileTree" 1446),some (.builtin "object.__new__"),some (.bool true)]),(1076,⟨.type "tuple",none,.seq #[.int 16 1881] 0,#[]⟩)],
 fA "__init__" "Heap.__init__" (.ref 1076) 0x74b75f00233175a00009200143a,
 [(1131,⟨.type "dict",none,.dict #[au P "__module__" 1876 (.str "treepool.heap" 1867),au P "__firstlineno__" 1880 (.int 815 1879),au P "__init__" 1889 (.ref 1083),au P "write" 1895 (.ref 1089),au P "want" 1904 (.ref 1096),au P "read" 1913 (.ref 1103),au P "free" 1923 (.ref 1110),au P "live" 1930 (.ref 1117),au P "used" 1936 (.ref 1122),au P "harm" 1945 (.ref 1129),au P "__static_attributes__" 1951 (.ref 1130),au P "__dict__" 1953 (.ref 1133),au P "__weakref__" 1955 (.ref 1134),au P "__doc__" 1956 (.none)] 4,#[]⟩),(1132,eX "Heap" [.type "object"] [.ref 1132,.type "object"] 1131 [] #[none,none,some (.str "Heap" 1869),some (.str "Heap" 1877),some (.builtin "object.__new__"),some (.bool true)])]].flatten
noncomputable def aki (P:Params):Frag:=[[(1144,⟨.type "tuple",none,.seq #[.int 1 1991,.int (-1) 1993,.bytes #[] 1994,.none,.int 0 1995] 0,#[]⟩)],
 fA "__init__" "Dnode.__init__" (.ref 1144) 0x7a77d70083667cc00009700147e,
 fA "copy" "Dnode.copy" .none 0x7a77de0013717da001097001485,
 [(1167,⟨.type "dict",none,.dict #[au P "__module__" 1986 (.str "treepool.dnodes" 1959),au P "__firstlineno__" 1990 (.int 868 1989),au P "__init__" 2009 (.ref 1151),au P "copy" 2016 (.ref 1158),au P "plain" 2024 (.ref 1165),au P "__static_attributes__" 2032 (.ref 1166),au P "__dict__" 2034 (.ref 1169),au P "__weakref__" 2036 (.ref 1170),au P "__doc__" 2037 (.none)] 4,#[]⟩),(1168,eX "Dnode" [.type "object"] [.ref 1168,.type "object"] 1167 [] #[none,none,some (.str "Dnode" 1979),some (.str "Dnode" 1987),some (.builtin "object.__new__"),some (.bool true)])],
 fP "most_blocks" 0x811827001392823fff09d0014af,
 [(1331,⟨.type "tuple",none,.seq #[.none,.ref 1330] 0,#[]⟩)],
 fA "__init__" "SetHead.__init__" (.ref 1331) 0x8eb9100054239080000ac001539,
 [(1347,⟨.type "dict",none,.dict #[au P "__module__" 2303 (.str "treepool.setview" 2283),au P "__firstlineno__" 2307 (.int 1057 2306),au P "__init__" 2322 (.ref 1338),au P "copy" 2329 (.ref 1345),au P "__static_attributes__" 2334 (.ref 1346),au P "__dict__" 2336 (.ref 1349),au P "__weakref__" 2338 (.ref 1350),au P "__doc__" 2339 (.none)] 4,#[]⟩),(1348,eX "SetHead" [.type "object"] [.ref 1348,.type "object"] 1347 [] #[none,none,some (.str "SetHead" 2296),some (.str "SetHead" 2304),some (.builtin "object.__new__"),some (.bool true)])],
 fP "parts_of" 0x8eb94000343a935fff0af00155a,
 fA "__init__" "Change.__init__" .none 0x9ba9d20034919cc0000b40015be,
 fA "told" "Change.told" .none 0x9ba9da0014989d50010b40015c5,
 [(1480,⟨.type "dict",none,.dict #[au P "__module__" 2503 (.str "treepool.objsets" 2490),au P "__firstlineno__" 2507 (.int 1167 2506),au P "__init__" 2516 (.ref 1471),au P "told" 2524 (.ref 1478),au P "__static_attributes__" 2530 (.ref 1479),au P "__dict__" 2532 (.ref 1482),au P "__weakref__" 2534 (.ref 1483),au P "__doc__" 2535 (.none)] 4,#[]⟩),(1481,eX "Change" [.type "object"] [.ref 1481,.type "object"] 1480 [] #[none,none,some (.str "Change" 2496),some (.str "Change" 2504),some (.builtin "object.__new__"),some (.bool true)]),(1493,⟨.type "tuple",none,.seq #[.none,.int 0 2550] 0,#[]⟩)],
 fA "__init__" "ObjectSet.__init__" (.ref 1493) 0x9ba9ff00549e9f70000b50015db,
 fA "is_there" "ObjectSet.is_there" .none 0x9baa070024aca020010b50015e2,
 fA "objects" "ObjectSet.objects" .none 0x9baa0d0014b1a0a0020b50005e7,
 fA "dnode" "ObjectSet.dnode" .none 0x9baa150024b6a100030b50015ee,
 fA "block_of" "ObjectSet.block_of" .none 0x9baa280044c3a210050b50015fc,
 fA "read" "ObjectSet.read" .none 0x9baa2e0044caa2b0060b5000601,
 fA "changed" "ObjectSet.changed" .none 0x9baa3e0024d4a380080b500160f,
 [(1553,⟨.type "tuple",none,.seq #[.bytes #[] 2625] 0,#[]⟩)],
 fA "add" "ObjectSet.add" (.ref 1553) 0x9baa490044dca420090b5001617,
 fA "greatest" "ObjectSet.greatest" .none 0x9baa500014e0a4c00a0b500161e,
 [(1568,⟨.type "tuple",none,.seq #[.bytes #[] 2643] 0,#[]⟩)],
 fA "add_at" "ObjectSet.add_at" (.ref 1568) 0x9baa5c0054e5a5400b0b5001626,
 fA "drop" "ObjectSet.drop" .none 0x9baa650024eda5f00c0b500162d,
 fA "set_bonus" "ObjectSet.set_bonus" .none 0x9baa6e0034f6a6800d0b5001634,
 fA "write" "ObjectSet.write" .none 0x9baa800044fba7100e0b500163b,
 fA "cut" "ObjectSet.cut" .none 0x9baa86003507a8300f0b5000640,
 [(1638,⟨.type "dict",none,.dict #[au P "__module__" 2545 (.str "treepool.objsets" 2490),au P "__firstlineno__" 2549 (.int 1180 2548),au P "__init__" 2561 (.ref 1500),au P "is_there" 2569 (.ref 1507),au P "objects" 2575 (.ref 1512),au P "dnode" 2583 (.ref 1519),au P "size" 2592 (.ref 1526),au P "block_of" 2602 (.ref 1533),au P "read" 2608 (.ref 1538),au P "is_dirty" 2615 (.ref 1545),au P "changed" 2624 (.ref 1552),au P "add" 2635 (.ref 1560),au P "greatest" 2642 (.ref 1567),au P "add_at" 2654 (.ref 1575),au P "drop" 2663 (.ref 1582),au P "set_bonus" 2672 (.ref 1589),au P "write" 2690 (.ref 1596),au P "cut" 2696 (.ref 1601),au P "set_log" 2704 (.ref 1608),au P "set_word" 2713 (.ref 1615),au P "settle" 2726 (.ref 1622),au P "slots" 2739 (.ref 1629),au P "sync" 2757 (.ref 1636),au P "__static_attributes__" 2767 (.ref 1637),au P "__dict__" 2769 (.ref 1640),au P "__weakref__" 2771 (.ref 1641),au P "__doc__" 2772 (.none)] 4,#[]⟩),(1639,eX "ObjectSet" [.type "object"] [.ref 1639,.type "object"] 1638 [] #[none,none,some (.str "ObjectSet" 2538),some (.str "ObjectSet" 2546),some (.builtin "object.__new__"),some (.bool true)])],
 fP "_law_record" 0xad7adc003546ad9fff0b700066f,
 fP "_law_goal" 0xad7ae6002553adffff0b8001676,
 fP "_law_is_room" 0xad7aee00255aae9fff0b900167d,
 fP "_law_octets" 0xad7af600255caf1fff0ba001684,
 fP "_law_after" 0xad7b05002563af9fff0bb00168b,
 fP "_law_tells" 0xad7b0b00257eb08fff0bc000690,
 fP "_law_tree" 0xad7b11000585b0efff0bd001697,
 fP "law" 0xad7b17001587b14fff0be00069c].flatten
theorem an8 (w:World):(xn den pw w 11 (some (.ref 6)) 1 3562 ⟨akf w.params,15,187⟩ (FP (((AS pw).drop 0).take 26) rE cC ⟨0,0,0,0⟩ [DL default])).map (λr=>(r.1,r.2.1.n,r.2.1.toks,[3,12,2,13,0,4].map (aX r.2.1.mem),(k26 w.params).map (λp=>aX r.2.1.mem p.1),r.2.2))=some (.next,321,592,(aja w.params).map (λp=>some p.2),(k26 w.params).map (λp=>some p.2),cC,⟨122,0,125,52⟩):=by
 kernel_rfl
theorem an9 (w:World):(xn den pw w 11 (some (.ref 6)) 1 945 ⟨aja w.params,321,592⟩ (FP (((AS pw).drop 26).take 34) rE cC ⟨122,0,125,52⟩ [DL default])).map (λr=>(r.1,r.2.1.n,r.2.1.toks,[3,12,2,13,0,4].map (aX r.2.1.mem),(k60 w.params).map (λp=>aX r.2.1.mem p.1),r.2.2))=some (.next,466,835,(ajb w.params).map (λp=>some p.2),(k60 w.params).map (λp=>some p.2),cC,⟨247,0,248,101⟩):=by
 kernel_rfl
theorem akj (w:World):(xn den pw w 11 (some (.ref 6)) 1 1667 ⟨ajb w.params,466,835⟩ (FP (((AS pw).drop 60).take 50) rE cC ⟨247,0,248,101⟩ [DL default])).map (λr=>(r.1,r.2.1.n,r.2.1.toks,[3,12,2,13,0,4].map (aX r.2.1.mem),(akg w.params).map (λp=>aX r.2.1.mem p.1),r.2.2))=some (.next,718,1270,(ab4 w.params).map (λp=>some p.2),(akg w.params).map (λp=>some p.2),cC,⟨495,0,495,13⟩):=by
 kernel_rfl
theorem akk (w:World):(xn den pw w 11 (some (.ref 6)) 1 3042 ⟨ab4 w.params,718,1270⟩ (FP (((AS pw).drop 110).take 40) rE cC ⟨495,0,495,13⟩ [DL default])).map (λr=>(r.1,r.2.1.n,r.2.1.toks,[3,12,2,13,0,4].map (aX r.2.1.mem),(akh w.params).map (λp=>aX r.2.1.mem p.1),r.2.2))=some (.next,1137,1977,(ab6 w.params).map (λp=>some p.2),(akh w.params).map (λp=>some p.2),cC,⟨866,0,866,5⟩):=by
 kernel_rfl
theorem akl (w:World):(xn den pw w 11 (some (.ref 6)) 1 3641 ⟨ab6 w.params,1137,1977⟩ (FP (((AS pw).drop 150).take 41) rE cC ⟨866,0,866,5⟩ [DL default])).map (λr=>(r.1,r.2.1.n,r.2.1.toks,[3,12,2,13,0,4].map (aX r.2.1.mem),(aki w.params).map (λp=>aX r.2.1.mem p.1),r.2.2))=some (.next,1694,2842,(tB w.params).map (λp=>some p.2),(aki w.params).map (λp=>some p.2),cC,⟨1415,0,1445,16⟩):=by
 kernel_rfl
end Mine
namespace Mine
set_option maxHeartbeats 0
open PySem PySem.W
noncomputable def ab7 (den:Code->Sem Fin) (p:Program) (w:World) (n₀:Nat) (ann:Option Ae) (N:Nat):PS->Thread->Option (PS × Thread):=
 N.rec (λs t=>some (s,t)) λO K s t=>bif through t then none else bif stepOk n₀ ann t then (ab0 den p w s t).bind λr=>K r.1 r.2 else none
theorem agg {β:Type} {b:Bool} {x:Option β} {r:β} {G:Prop} (e:(bif b then none else x)=some r) (z:b=false->x=some r->G):G:=by
 cases b with
 | true=>cases e
 | false=>exact z rfl e
theorem tC {tb:String->Option BW} {p:Program} {w:World} {n₀:Nat} {ann:Option Ae} {g:Array E2} {d:IT} {os:Fx} (N:Nat):∀ {m:PM} {n k:Nat} {t:Thread} {h:Heap} {r:PS × Thread},
 ab7 (denote tb) p w n₀ ann N ⟨m,n,k⟩ t=some r->xg m n h->∃ h',topGo tb p w n₀ ann N ⟨h,g,d,k,os⟩ t=some (⟨h',g,d,r.1.toks,os⟩,r.2)∧iD m h r.1.mem r.1.n h':=by
 induction N with
 | zero=>
  intro m n k t h r e R
  rw [← AH e]
  exact ⟨h,rfl,iD.refl R⟩
 | succ N ih=>
  intro m n k t h r e R
  show(agg e λha e=>tA e λhk e=>lG e λq hq e=>?_,an (ot (g:=g) (d:=d) (os:=os) R q hq) λh₁ s1 P1=>?_,an (ih e P1.rep) λh₂ s2 P2=>?_,⟨h₂,by unfold topGo;rw [ha,hk,s1];exact s2,P1.trans P2⟩)
theorem xg.less {m m':PM} {n:Nat} {h:Heap} (R:xg m n h) (x:∀ p∈m',aX m p.1=some p.2):xg m' n h:=
 ⟨R.size,λa o e=>R.at_ a o (x (a,o) (jD m' e))⟩
theorem o7 {m m':PM} (x:m'.map (λp=>aX m p.1)=m'.map (λp=>some p.2)):∀ p∈m',aX m p.1=some p.2:=List.map_inj_left.mp x
noncomputable def tD (P:Params):PM:=[(0,E8 P),(1,boot_o_1 P),(2,boot_o_2 P),(3,boot_o_3 P),(4,Ew P),(5,boot_o_5 P),(6,boot_o_6 P),(7,boot_o_7 P),(8,boot_o_8 P),(9,boot_o_9 P),(10,boot_o_10 P)]
theorem ab8 (P:Params):xg (tD P) 11 (E0 P):=
 ⟨by kernel_rfl,λa o e=>List.map_inj_left.mp (show (tD P).map (λp=>(E0 P).get? p.1)=(tD P).map λp=>some p.2 by kernel_rfl) (a,o) (jD _ e)⟩
end Mine
namespace Mine
set_option maxHeartbeats 0
open PySem PySem.W
noncomputable abbrev zJ:Option Ae:=some (.ref 6)
theorem akm (w:World):(ab7 den pw w 11 zJ 12 ⟨tD w.params,11,boot_toks⟩ (topStub pw)).map (λr=>(r.1.n,r.1.toks,[3,12,2,13,0,4].map (aX r.1.mem),r.2))=
 some (15,187,(akf w.params).map (λp=>some p.2),⟨den cC,cC,default,[DL default]⟩):=by
 kernel_rfl
theorem ab9 (w:World) (s:Ad):segRun Hd pw w 11 zJ 1 1 s (blockOf (AS pw) rE cC default [DL default])=some (.next,s,cC,default):=by
 kernel_rfl
theorem akn (w:World) (s:Ad) (pos:Pos):topRun Hd pw w 11 zJ 3 s (restOf [] rE cC pos [DL default])=some s:=by
 obtain ⟨h,g,d,k,os⟩:=s
 kernel_rfl
theorem agh {m:PM} {a:Addr} (x:a∉m.map Ar):aX m a=none:=by
 cases q:aX m a with
 | none=>rfl
 | some o=>exact absurd (AN (jD _ q)) x
noncomputable abbrev uZ:List Addr:=[3,12,2,13,0,4]
noncomputable def dr (K:Frag) (h:Heap):Prop:=∀ p∈K,h.get? p.1=some p.2
theorem dr.app {K K':Frag} {h:Heap} (a:dr K h) (b:dr K' h):dr (K++K') h:=λp hp=>(List.mem_append.mp hp).elim (a p) (b p)
theorem dr.rep {m:PM} {n:Nat} {h:Heap} (R:xg m n h) (x:∀ p∈m,aX m p.1=some p.2):dr m h:=λp hp=>R.at_ _ _ (x p hp)
theorem lH {w:World} {N:Nat} {mi mj:PM} {ni ti nj tj:Nat} {stmts:List Stmt} {pi pj:Pos} {K K₀:Frag}
 (e:(xn den pw w 11 zJ 1 N ⟨mi,ni,ti⟩ (FP stmts rE cC pi [DL default])).map (λr=>(r.1,r.2.1.n,r.2.1.toks,uZ.map (aX r.2.1.mem),K.map (λp=>aX r.2.1.mem p.1),r.2.2))=some (.next,nj,tj,mj.map (λp=>some p.2),K.map (λp=>some p.2),cC,pj))
 (hi:mi.map Ar=uZ) (hj:mj.map Ar=uZ) {h:Heap} {g:Array E2} {d:IT} {os:Fx} (R:xg mi ni h) (a0:dr K₀ h) (k0:(K₀.map Ar).all (λa=>D7 14 a)=true) (k1:(K.map Ar).all (λa=>D7 14 a)=true):
 ∃ h',segRun Hd pw w 11 zJ 1 N ⟨h,g,d,ti,os⟩ (FP stmts rE cC pi [DL default])=some (.next,⟨h',g,d,tj,os⟩,cC,pj)∧xg mj nj h'∧dr (K₀++K) h'∧((K₀++K).map Ar).all (λa=>D7 14 a)=true:=by
 refine an (Option.map_eq_some_iff.mp e) λr e1 e2=>?_
 rw [← xq] at e1
 refine an (xo (g:=g) (d:=d) (os:=os) N e1 R) λh' s1 P=>?_
 have e3:mj.map (λp=>aX r.2.1.mem p.1)=mj.map (λp=>some p.2):=by
  rw [← show uZ.map (aX r.2.1.mem)=mj.map (λp=>some p.2) from congrArg (λx=>x.2.2.2.1) e2,← hj,Aw];rfl
 refine ⟨h',s1.trans ?_,((show r.2.1.n=nj from congrArg (λx=>x.2.1) e2)▸P.rep:xg r.2.1.mem nj h').less (o7 e3),dr.app (λp hp=>P.keep _ _ (a0 p hp) (agh ?_)) (λp hp=>P.rep.at_ _ _ (o7 (congrArg (λx=>x.2.2.2.2.1) e2) p hp)),by rw [AT,List.all_append,k0,k1];rfl⟩
 ·rw [show r.1=.next from congrArg (λx=>x.1) e2,show r.2.1.toks=tj from congrArg (λx=>x.2.2.1) e2,show r.2.2=(cC,pj) from congrArg (λx=>x.2.2.2.2.2) e2]
 ·rw [hi]
  exact λhm=>absurd (Bq (List.all_eq_true.mp k0 p.1 (AN hp))) ((by decide:∀ a∈uZ,¬ 14≤a) p.1 hm)
noncomputable def KS (P:Params):Frag:=((((k26 P)++k60 P)++akg P)++akh P)++aki P
theorem ei (l:List Stmt) (i k:Nat):(l.drop i).take k++l.drop (i+k)=l.drop i:=by
 rw [← List.drop_drop];exact Bg _ _
theorem ako (w:World) (d:IT) (os:Fx):∃ (N:Nat) (h:Heap),topRun Hd pw w 11 zJ N ⟨E0 w.params,#[],d,boot_toks,os⟩ (topStub pw)=some ⟨h,#[],d,2842,os⟩∧xg (tB w.params) 1694 h∧dr (KS w.params) h:=by
 refine an (Option.map_eq_some_iff.mp (akm w)) λr e1 e2=>?_
 rw [← xq] at e1
 refine an (tC (g:=#[]) (d:=d) (os:=os) 12 e1 (ab8 w.params)) λh0 s0 P0=>?_
 have R0':=((show r.1.n=15 from congrArg (λx=>x.1) e2)▸P0.rep:xg r.1.mem 15 h0).less (o7 (m':=akf w.params) (congrArg (λx=>x.2.2.1) e2))
 rw [show r.1.toks=187 from congrArg (λx=>x.2.1) e2,show r.2=⟨den cC,cC,default,[DL default]⟩ from congrArg (λx=>x.2.2.2) e2,← xq] at s0
 show[sC (lH (K₀:=[]) (an8 w) rfl rfl (g:=#[]) (d:=d) (os:=os) R0' (λp hp=>nomatch hp) rfl (by kernel_rfl)) λh1 s1 R1 A1 b1=>?_,sC (lH (an9 w) rfl rfl (g:=#[]) (d:=d) (os:=os) R1 A1 b1 (by kernel_rfl)) λh2 s2 R2 A2 b2=>?_,sC (lH (akj w) rfl rfl (g:=#[]) (d:=d) (os:=os) R2 A2 b2 (by kernel_rfl)) λh3 s3 R3 A3 b3=>?_,sC (lH (akk w) rfl rfl (g:=#[]) (d:=d) (os:=os) R3 A3 b3 (by kernel_rfl)) λh4 s4 R4 A4 b4=>?_,sC (lH (akl w) rfl rfl (g:=#[]) (d:=d) (os:=os) R4 A4 b4 (by kernel_rfl)) λh5 s5 R5 A5 b5=>?_]
 have f5:=akn w ⟨h5,#[],d,2842,os⟩ ⟨1415,0,1445,16⟩
 have z5:=He (rest:=[]) s5 f5
 have z4:=He (rest:=(AS pw).drop 150) s4 (by
  have q:=ei (AS pw) 150 41
  rw [show (AS pw).drop (150+41)=[] by kernel_rfl] at q
  rw [← q];exact z5)
 have z3:=He (rest:=(AS pw).drop 110) s3 (by rw [← ei (AS pw) 110 40];exact z4)
 have z2:=He (rest:=(AS pw).drop 60) s2 (by rw [← ei (AS pw) 60 50];exact z3)
 have z1:=He (rest:=(AS pw).drop 26) s1 (by rw [← ei (AS pw) 26 34];exact z2)
 have z0:=piece_block (ab9 w _) (by rw [← ei (AS pw) 0 26] at *;exact z1)
 exact ⟨_,h5,go_top s0 z0,R5,A5⟩
end Mine
namespace Mine
set_option maxHeartbeats 0
open PySem PySem.W
theorem sD (lk:Look):∀ a b:List Stmt,Cz lk (a++b)=(Cz lk a&&Cz lk b)
 | [],b=>rfl
 | s::a,b=>by
  show (noRoadLS lk s&&Cz lk (a++b))=((noRoadLS lk s&&Cz lk a)&&Cz lk b)
  rw [sD lk a b,Bool.and_assoc]
theorem u0 (lk:Look) (k:Nat) (l:List Stmt) (a:Cz lk (l.take k)=true) (b:Cz lk (l.drop k)=true):Cz lk l=true:=by
 rw [← Bg k l,sD,a,b];rfl
theorem u3 (l:OpenLaw) (h0:l.row.wellSaid=true) (h1:decide (l.foot≤(AS l.prog).length)=true) (h2:l.footing.all footLine=true) (h3:noClassBlock l.prog l.footing=true)
 (h4:l.most.all (λn=>decide (63≤n))=true) (h5:l.bound.all (λn=>decide (2 ^ 63≤n))=true)
 (h6:Cz { strict:=true,foot:=some l.bound',writes:=l.writes,may:=l.may } l.footing=true) (h7:defStands l.about l.above=true) (h8:l.namesIt=true)
 (h9:(["type","isinstance","issubclass","getattr","hasattr"]:List Str).all (λn=>l.about != [n])=true) (h10:l.bound'.all (λn=>!EV n||l.about==[n]||!l.reads n)=true)
 (h11:(!l.writes||(l.prog.main.body.flatMap importedNames).all λn=>!l.reads n)=true)
 (h12:((l.prog.main.body.flatMap importedNames).all λn=>!l.reads n||(drawsOf n l.prog.main.body).all λmn=>mn.2 != ("attrgetter":Str)&&mn.2 != ("methodcaller":Str))=true)
 (h13:DX l.prog l.footing (λsc n=>(!(["type","isinstance","issubclass","getattr","hasattr"]:List Str).contains n||sc.names.lookup n==some .globalImplicit)&&
  (l.may != some n||sc.kind==.module||sc.names.lookup n==some .globalImplicit))=true)
 (h14:l.own.contains l.name=true) (h15:(l.own.eraseDups.length==l.own.length)=true) (h16:l.own.all (λn=>!EV n)=true)
 (h17:DX l.prog l.above (λO n=>!l.own.contains n)=true) (h18:(DX l.prog l.footing λsc n=>sc.kind==.module||sc.names.lookup n != some .globalExplicit)=true):l.wellSaid=true:=by
 unfold OpenLaw.wellSaid
 rw [h0,h1,h2,h3,h4,h5,h6,h7,h8,h9,h10,h11,h12,h13,h14,h15,h16,h17,h18];rfl
theorem ej {a b:Bool} (x:a=true) (y:b=true):(a&&b)=true:=by rw [x,y];rfl
theorem akp (r:OpenRow) (h0:IG r.prog=true) (h1:r.loose.isEmpty=true) (h2:r.makers.isEmpty=true)
 (h3:(r.records.isEmpty||r.raises.all λct=>ct.1 != .builtin "AttributeError"&&ct.1 != .builtin "TypeError")=true)
 (h4:(r.raises.all λct=>match ct.1 with | .builtin n=>!r.prog.boundNames.contains (Ab n)&&!ofTheWorld.contains n | .own _=>true)=true)
 (h5:decide (r.records.map (·.1)).Nodup=true) (h6:(r.records.all λx=>!x.1.opensWith "__"&&!EV x.1&&r.prog.boundNames.contains x.1&&x.2.all λf=>!f.1.opensWith "__")=true)
 (h7:r.toRowW.solid=true) (h8:r.pre.litsOk=true) (h9:r.post.litsOk=true) (h10:r.raises.all (·.2.litsOk)=true)
 (h11:(r.mutates.all (λi=>match r.args[i]? with
  | some sh=>!sh.arms.any WShape.isObj
  | none=>false))=true)
 (h12:r.within.all (λi=>decide (i <r.args.length))=true) (h13:r.same.all (λi=>decide (i <r.args.length))=true)
 (h14:r.prog.boundNames.contains r.name=true) (h15:(!startupNames.contains r.name)=true):r.wellSaid=true:=
 ej (ej (ej (ej (ej (ej (ej (ej (ej (ej (ej (ej (ej (ej (ej h0 h1) h2) h3) h4) h5) h6) h7) h8) h9) h10) h11) h12) h13) h14) h15
theorem tE (p:Program) (lk:Look) (b:(["vars","dir","locals"]:List Str).filter (Ie p p.main.body)=lk.bare) (st:(!(importedModules p.main.body).all cThrough.contains)=lk.strict) (lk':lk={ strict:=lk.strict,foot:=none,bare:=lk.bare })
 (h1:sreFenced p.main=true) (h2:((GT p.main.body).isEmpty||lookedIntoSs (GT p.main.body) p.main.body)=true) (h3:Ig p=true) (h4:p.boundNames.all (λn=>!worldNames.contains n)=true)
 (h5:Cz lk p.main.body=true)
 (h6:(DX p p.main.body λO n=>attrL n)=true):IG p=true:=by
 unfold IG
 rw [b,st,← lk',h1,h2,h3,h4,h5,h6];rfl
noncomputable def key (s:Str):Nat:=s.cps.toList.rec 1 λc O ih=>Nat.add (Nat.mul ih 2097152) c
noncomputable def seq (n:Str) (kn:Nat) (k:Str):Bool:=(Gi (key k) kn).rec false (n==k)
theorem xt (n k:Str):seq n (key n) k=(n==k):=by
 unfold seq
 cases e:Gi (key k) (key n) with
 | true=>rfl
 | false=>exact (beq_eq_false_iff_ne.mpr λh=>by subst h;rw [Nat.beq_refl] at e;exact nomatch e).symm
noncomputable def u4 {β:Type} (n:Str) (l:List (Str × β)):Option β:=l.rec none λp O ih=>(seq n (key n) p.1).rec ih (some p.2)
theorem u5 {β:Type} (n:Str) (l:List (Str × β)):l.lookup n=u4 n l:=by
 induction l with
 | nil=>rfl
 | cons p t ih=>
  rw [A7,ih]
  show _=Ih (motive:=λO=>Option β) (u4 n t) (some p.2) (seq n (key n) p.1)
  rw [xt]
  cases n==p.1 <;> rfl
noncomputable def lI (n:Str) (l:List Str):Bool:=l.rec false λk O ih=>(seq n (key n) k).rec ih true
theorem fF (n:Str) (l:List Str):l.contains n=lI n l:=by
 induction l with
 | nil=>rfl
 | cons k t ih=>
  rw [HM,ih]
  show _=Ih (motive:=λO=>Bool) (lI n t) true (seq n (key n) k)
  rw [xt]
  cases n==k <;> rfl
open TablesWhole in
theorem agi (A:Alg Bool) (hb:A.both=and) (hu:A.unit=true) (top:Scope) (cx:I3) (sc:Scope) (a b:List Stmt):wSs A top cx sc (a++b)=(wSs A top cx sc a&&wSs A top cx sc b):=by
 induction a with
 | nil=>show _=(A.unit&&_);rw [hu];rfl
 | cons s a ih=>
  show A.both (wS A top cx sc s) (wSs A top cx sc (a++b))=(A.both (wS A top cx sc s) (wSs A top cx sc a)&&wSs A top cx sc b)
  rw [ih,hb,Bool.and_assoc]
noncomputable def pH (l:List Str):Bool:=l.rec true λk t ih=>(lI k t).rec ih false
theorem xu {sc:Scope} (h:pH (sc.names.map (·.1))=true):Hp sc=true:=by
 have nd:(sc.names.map (·.1)).Nodup:=by
  revert h
  induction sc.names.map (·.1) with
  | nil=>exact λO=>BB
  | cons k t ih=>
   intro h
   have h:(lI k t).rec (pH t) false=true:=h
   rw [← fF] at h
   cases e:t.contains k with
   | true=>rw [e] at h;exact nomatch h
   | false=>rw [e] at h;exact List.nodup_cons.mpr ⟨λx=>(by rw [List.contains_iff_mem.mpr x] at e;exact nomatch e),ih h⟩
 unfold Hp
 refine List.all_eq_true.mpr λ⟨n,k⟩ hm=>?_
 have e:sc.names.filter (·.1==n)=[(n,k)]:=by
  revert nd hm
  induction sc.names with
  | nil=>exact λO h=>nomatch h
  | cons p t ih=>
   intro nd hm
   have nd:=List.nodup_cons.mp nd
   rw [AM]
   cases hm with
   | head=>
    rw [if_pos (beq_self_eq_true n)]
    exact congrArg _ (List.filter_eq_nil_iff.mpr λq hq x=>nd.1 ((beq_iff_eq.mp x:q.1=n)▸AN (f:=Ar) hq:n∈t.map Ar))
   | tail _ hm=>
    rw [if_neg λx=>nd.1 ((beq_iff_eq.mp x:p.1=n).symm▸AN (f:=Ar) hm:p.1∈t.map Ar)]
    exact ih nd.2 hm
 dsimp only
 rw [e]
open TablesWhole in
noncomputable def gr:Alg Bool:=⟨λsc n O=>(u4 n sc.names).isSome,λO O O ok=>ok,λO=>true,true,false,and⟩
open TablesWhole in
theorem zK:holds=gr:=by
 unfold holds gr
 rw [Alg.mk.injEq]
 exact ⟨funext λsc=>funext λn=>funext λO=>congrArg _ (u5 n _),rfl,rfl,rfl,rfl,rfl⟩
open TablesWhole in
theorem zL (top:Scope) (cx:I3) (sc:Scope) (k:Nat) (l:List Stmt) (a:wSs gr top cx sc (l.take k)=true) (b:wSs gr top cx sc (l.drop k)=true):wSs gr top cx sc l=true:=by
 rw [← Bg k l,agi gr rfl rfl,a,b];rfl
open TablesWhole in
theorem zM {p:Program} (hm:p.modules=[]) (hp:p.parses=[]) (hh:p.harvested=[]) (h0:wSs gather p.main.scope ⟨p.main.scope,[],[],[],none⟩ p.main.scope p.main.body=[])
 (h1:noTwice p.main.scope=true) (h2:wSs gr p.main.scope ⟨p.main.scope,[],[],[],none⟩ p.main.scope p.main.body=true):p.tablesWhole=true:=by
 unfold Program.tablesWhole wProgram
 rw [hm,hp,hh]
 unfold wModule
 rw [h0]
 show (true&&(noTwice _&&(wSs holds _ _ _ _&&true))&&_)=true
 rw [h1,zK,h2]
 rfl
noncomputable def aca (n:Str):Bool:=!lI n frameAttrs&&(!(n.opensWith "__"&&n.endsWith "__")||lI n letByL)
theorem acb:attrL=aca:=by
 funext n;unfold attrL aca;rw [fF,fF]
noncomputable def tF (n:Str):Bool:=Manifest.builtinsNames.rec false λy O ih=>(seq n (key n) (Ab y.1)).rec ih true
theorem sE:EV=tF:=by
 funext n;unfold EV tF
 generalize Manifest.builtinsNames=l
 induction l with
 | nil=>rfl
 | cons y l ih=>
  rw [FF,ih]
  show _=Ih (motive:=λO=>Bool) _ true (seq n (key n) (Ab y.1))
  rw [xt,BEq.comm]
  cases n==Ab y.1 <;> rfl
noncomputable def akq (p:Program) (sc:Scope) (n:Str):Bool:=match u4 n sc.names with
 | some .globalImplicit | some .globalExplicit=>lI n p.boundNames||n==("__name__":Str)||n==("__debug__":Str)||(tF n&&!worldNames.contains n&&!n.opensWith "__")
 | _=>true
theorem agj (p:Program):Ig p=DX p p.main.body (akq p):=by
 unfold Ig DX
 congr 2
 funext sc n _
 unfold akq
 rw [u5]
 cases u4 n sc.names with
 | none=>rfl
 | some k=>cases k <;> first | rfl | (dsimp only;rw [fF,sE])
noncomputable abbrev lk0:Look:={ strict:=false,foot:=none,bare:=[] }
theorem w1:DX pw pw.main.body (akq pw)=true:=by kernel_rfl
theorem w2:(DX pw pw.main.body λO n=>aca n)=true:=by kernel_rfl
theorem w3a:Ie pw pw.main.body (Ab "vars")=false:=by kernel_rfl
theorem w3b:Ie pw pw.main.body (Ab "dir")=false:=by kernel_rfl
theorem w3c:Ie pw pw.main.body (Ab "locals")=false:=by kernel_rfl
theorem aoa {f:Str->Bool} {a b c:Str} (x:f a=false) (y:f b=false) (z:f c=false):[a,b,c].filter f=[]:=by
 rw [AM,AM,AM,x,y,z];rfl
theorem w3:(["vars","dir","locals"]:List Str).filter (Ie pw pw.main.body)=lk0.bare:=aoa w3a w3b w3c
theorem w4:Cz lk0 (pw.main.body.take 90)=true:=by kernel_rfl
theorem w5:Cz lk0 (pw.main.body.drop 90)=true:=by kernel_rfl
theorem w6:((GT pw.main.body).isEmpty||lookedIntoSs (GT pw.main.body) pw.main.body)=true:=by kernel_rfl
theorem w7:pw.boundNames.all (λn=>!worldNames.contains n)=true:=by kernel_rfl
theorem wa:IG pw=true:=tE pw lk0 w3 (by kernel_rfl) rfl (by kernel_rfl) w6 ((agj pw).trans w1) w7 (u0 _ 90 _ w4 w5) (acb▸w2)
theorem tb1:pH (pw.main.scope.names.map (·.1))=true:=by kernel_rfl
theorem tb2:GC TablesWhole.gather pw.main.scope ⟨pw.main.scope,[],[],[],none⟩ pw.main.scope pw.main.body=[]:=by kernel_rfl
theorem tb3:GC gr pw.main.scope ⟨pw.main.scope,[],[],[],none⟩ pw.main.scope (pw.main.body.take 140)=true:=by kernel_rfl
theorem tb4:GC gr pw.main.scope ⟨pw.main.scope,[],[],[],none⟩ pw.main.scope (pw.main.body.drop 140)=true:=by kernel_rfl
theorem aob:pw.bare:=
 ⟨rfl,rfl,rfl,rfl,rfl,zM rfl rfl rfl tb2 (xu tb1) (zL _ _ _ 140 _ tb3 tb4)⟩
noncomputable abbrev lJ:=I4
theorem yU:lJ.row.wellSaid=true:=
 akp lJ.row wa (by kernel_rfl) (by kernel_rfl) (by kernel_rfl) (by kernel_rfl) (by kernel_rfl) (by kernel_rfl) (by kernel_rfl) (by kernel_rfl) (by kernel_rfl) (by kernel_rfl) (by kernel_rfl) (by kernel_rfl) (by kernel_rfl) (by kernel_rfl) (by kernel_rfl)
theorem v6:Cz { strict:=true,foot:=some lJ.bound',writes:=lJ.writes,may:=lJ.may } lJ.footing=true:=by kernel_rfl
theorem v10:lJ.bound'.all (λn=>!tF n||lJ.about==[n]||!lJ.reads n)=true:=by kernel_rfl
theorem v17:DX lJ.prog lJ.above (λO n=>!lJ.own.contains n)=true:=by kernel_rfl
theorem asb:lJ.wellSaid=true:=
 u3 lJ yU (by kernel_rfl) (by kernel_rfl) (by kernel_rfl) (by kernel_rfl) (by kernel_rfl) v6 (by kernel_rfl) (by kernel_rfl) (by kernel_rfl) (sE▸v10) (by kernel_rfl) (by kernel_rfl) (by kernel_rfl) (by kernel_rfl) (by kernel_rfl) (by kernel_rfl) v17 (by kernel_rfl)
end Mine
namespace Mine
set_option maxHeartbeats 0
open PySem PySem.W PyProof.Rows PySem.Calls
structure mS (w:World) (h:Heap):Prop where
 ks:dr (KS w.params) h
 cs:dr (tB w.params) h
theorem mS.keeps {w:World} {h h':Heap} (x:mS w h) (k:∀ b o,h.get? b=some o->h'.get? b=some o):mS w h':=
 ⟨λp hp=>k _ _ (x.ks p hp),λp hp=>k _ _ (x.cs p hp)⟩
noncomputable def kA (P:Params):Heap:=⟨#[E8 P,boot_o_1 P,((pG P)[1]?).getD default,((pG P)[0]?).getD default,Ew P],{}⟩
theorem bL {h h':Heap} {a:Addr} (e:h.get? a=h'.get? a):h.nsMap a=h'.nsMap a:=by funext x;unfold Heap.nsMap;rw [e]
theorem cN {h h':Heap} {a:Addr} (e:h.get? a=h'.get? a):h.isNs a=h'.isNs a:=by unfold Heap.isNs;rw [e]
theorem gu {h h':Heap} {a:Addr} (e:h.get? a=h'.get? a):h.nsKeys a=h'.nsKeys a:=by unfold Heap.nsKeys;rw [e]
theorem rF {h h':Heap} {a:Addr} (e:h.get? a=h'.get? a):h.nsPairs a=h'.nsPairs a:=by unfold Heap.nsPairs;rw [e]
section
variable {w:World} {h:Heap} (x:mS w h)
include x
theorem c0:h.get? B2=(kA w.params).get? B2:=(x.cs _ (.tail _ (.tail _ (.tail _ (.tail _ (.head _)))))).trans (by kernel_rfl)
theorem c2:h.get? cStatics=(kA w.params).get? cStatics:=(x.cs _ (.tail _ (.tail _ (.head _)))).trans (by kernel_rfl)
theorem c3:h.get? BP=(kA w.params).get? BP:=(x.cs _ (.head _)).trans (by kernel_rfl)
theorem c4:h.get? 4=(kA w.params).get? 4:=(x.cs _ (.tail _ (.tail _ (.tail _ (.tail _ (.tail _ (.head _))))))).trans (by kernel_rfl)
theorem agk:h.isNs BP=true:=(cN (c3 x)).trans (by kernel_rfl)
theorem akr:h.isNs B2=true:=(cN (c0 x)).trans (by kernel_rfl)
theorem asc:h.isNs cStatics=true:=(cN (c2 x)).trans (by kernel_rfl)
theorem dT:h.accountedOkI []=true:=by
 unfold Heap.accountedOkI
 rw [cN (c2 x),gu (c2 x),bL (c2 x)]
 kernel_rfl
theorem blt:h.bltView=bltViewBooted:=by
 unfold Heap.bltView
 rw [rF (c0 x)]
 kernel_rfl
theorem sta:staticsOk [] (E0 w.params) h=true:=by
 unfold staticsOk
 rw [cN (c2 x),gu (c2 x),bL (c2 x)]
 kernel_rfl
theorem nbd:namesBound pw h=true:=by
 unfold namesBound
 rw [cN (c3 x),gu (c3 x)]
 rewrite [show (λk=>startupNames.contains k||pw.boundNames.contains k)=(λk=>lI k startupNames||lI k pw.boundNames) from funext λk=>by rewrite [fF,fF];rfl]
 kernel_rfl
theorem lkd:laidKept (E0 w.params) h=true:=by
 unfold laidKept
 rw [cN (c3 x),bL (c3 x)]
 kernel_rfl
theorem glob (n:Str):globalOf h n=(kA w.params).nsMap BP n:=(Pin.globalOf_eq (agk x) n).trans (congrFun (bL (c3 x)) n)
end
end Mine
namespace Mine
set_option maxHeartbeats 0
open PySem PySem.W PyProof.Rows PySem.Calls
theorem aoc {w:World} {h:Heap} (x:mS w h) {a:Addr} {o:Obj} (e:aX (KS w.params) a=some o):h.get? a=some o:=
 x.ks _ (jD _ e)
noncomputable def sF:Ap:=fdOf (zI [190]) (Ab "law") .none (.str (Ab "law_np0227_01") 2775) (.ref 1692)
theorem aks {w:World} {h:Heap} (x:mS w h):h.get? 1693=some ⟨.type "function",none,.func sF,#[]⟩:=aoc x (by kernel_rfl)
theorem akt {w:World} {h:Heap} (x:mS w h):isTheDefsW pw h (Ab "law"):=by
 show(⟨1693,_,sF,sF.params,(match sF.body with | .stmts b=>b | _=>[]),sF.scope,(glob x _).trans (by kernel_rfl),aks x,rfl,by kernel_rfl,by kernel_rfl,by kernel_rfl,rfl,by kernel_rfl,rfl,by kernel_rfl,by kernel_rfl,by kernel_rfl,?_⟩,⟨.inl ⟨by kernel_rfl,by kernel_rfl⟩,[],by kernel_rfl,.inl ⟨rfl,by kernel_rfl⟩⟩)
theorem sG (w:World):(∃ s,AfterRun (opening pw) w s)∧∀ s,AfterRun (opening pw) w s->∃ s₀ s₁,fenceModules? pw s=some s₀∧s₀.gens=#[]∧TopRan pw w s₀ s₁∧s₁.asleep∧s₁.gens=#[]∧s₁.heap.objs.size=1694∧mS w s₁.heap:=by
 have ob:=boot_open (p:=pw) (N:=600) (by kernel_rfl) (by decide) (λs=>by kernel_rfl) w
 rw [← table_eq_tree] at ob
 show[an (Option.map_eq_some_iff.mp ob) λs₀ h2 e=>?_,an (Option.bind_eq_some_iff.mp h2) λs h4 h5=>?_]
 have A:=AfterImport.of_importEnds h4
 refine ⟨⟨s,A⟩,λs' hs'=>?_⟩
 cases show s'=s from AfterImport.unique hs' A
 have z:s₀.asleep:=Ee (fence_lifeW h5) A.life
 cases s₀ with | mk hp g d k os=>?_
 have e2:=Cd e
 have e3:=Cd e2.2
 have e4:=Cd e3.2
 have q1:hp=E0 w.params:=e2.1
 have q2:g=#[]:=e3.1
 have q3:d=boot_drawn:=e4.1
 have q4:k=boot_toks:=e4.2
 subst q1
 subst q2
 subst q3
 subst q4
 refine fg (ako w boot_drawn os) λN h₁ r R K=>?_
 rw [← table_eq_tree] at r
 refine e03 (topRun_spec N _ _ _ z r) λa l os' fr=>?_
 have x:mS w h₁:=⟨K,dr.rep R (o7 (by kernel_rfl))⟩
 refine x2 _ _ ⟨h5,rfl,⟨a,l,Shared.rest_eq os',λb o hb hn=>fr b o ?_ (λq=>hn (.inl q)) (λq=>hn (.inr (.inl q))) (λq=>hn (.inr (.inr ?_))) hb,
  Heap.accountedI_of_ok (dT x),statics_of_ok (sta x),Pin.keysAreStrs_of (agk x),λn hn=>(Pin.builtinOf_eq (akr x) n).trans (Heap.of_bltView (akr x) (blt x) n hn),?_,gens_of_done (by rfl),names_of_bound (nbd x),laid_of_kept (lkd x)⟩,
  Ee l z,rfl,R.size,x⟩
 ·exact AZ hb
 ·have e6:globalOf (E0 w.params) (Ab "__annotations__")=some (.ref 6):=by kernel_rfl
  cases q
  exact e6
 ·refine ⟨4,Ew w.params,(glob x _).trans (by kernel_rfl),(c4 x).trans (by kernel_rfl),by kernel_rfl,by kernel_rfl⟩
end Mine
namespace Mine
open PySem PySem.W PyProof.Rows
set_option genCtorIdx true in
inductive V where
 | none | bool (b:Bool) | int (i:Int) | str (s:Str) | bytes (b:List UInt8) | tup (l:List V) | list (l:List V) | obj (a:Addr)
mutual
inductive VR (h:Heap) (F:List Addr):V->Ae->Prop
 | none:VR h F .none .none
 | bool (b:Bool):VR h F (.bool b) (.bool b)
 | int (i:Int) (t:Tok):VR h F (.int i) (.int i t)
 | str (s:Str) (t:Tok):VR h F (.str s) (.str s t)
 | bytes (b:List UInt8) (t:Tok):VR h F (.bytes b) (.bytes ⟨b⟩ t)
 | obj (a:Addr):VR h F (.obj a) (.ref a)
 | tup {l:List V} {vs:List Ae} {a:Addr} {n:Nat} (hF:a∉F) (hg:h.get? a=some ⟨.type "tuple",.none,.seq ⟨vs⟩ n,#[]⟩) (hs:bT h F l vs):VR h F (.tup l) (.ref a)
 | list {l:List V} {vs:List Ae} {a:Addr} {n:Nat} (hF:a∉F) (hg:h.get? a=some ⟨.type "list",.none,.seq ⟨vs⟩ n,#[]⟩) (hs:bT h F l vs):VR h F (.list l) (.ref a)
inductive bT (h:Heap) (F:List Addr):List V->List Ae->Prop
 | nil:bT h F [] []
 | cons {v:V} {rv:Ae} {l:List V} {vs:List Ae} (x:VR h F v rv) (xs:bT h F l vs):bT h F (v::l) (rv::vs)
end
noncomputable def seqObj (o:Obj):Prop:=∃ vs n,o.data=.seq vs n
structure bx (G G':List Addr) (h h':Heap):Prop where
 keep:∀ b o,h.get? b=some o->seqObj o->b∉G->h'.get? b=some o
 grow:∀ b∈G',b∈G∨h.get? b=none
theorem VR.mono {h h':Heap} {F F':List Addr} (E:bx F F' h h') {v:V} {rv:Ae} (x:VR h F v rv):VR h' F' v rv:=
 VR.rec (motive_1:=λv rv O=>VR h' F' v rv) (motive_2:=λl vs O=>bT h' F' l vs) .none .bool .int .str .bytes .obj
  (λhF hg O ih=>.tup (λhm=>(E.grow _ hm).elim hF λq=>by rw [hg] at q;cases q) (E.keep _ _ hg ⟨_,_,rfl⟩ hF) ih)
  (λhF hg O ih=>.list (λhm=>(E.grow _ hm).elim hF λq=>by rw [hg] at q;cases q) (E.keep _ _ hg ⟨_,_,rfl⟩ hF) ih) .nil (λO O a b=>.cons a b) x
theorem bT.ind {h:Heap} {F:List Addr} {P:List V->List Ae->Prop} (nil:P [] []) (cons:∀ {v:V} {rv:Ae} {l:List V} {vs:List Ae},VR h F v rv->bT h F l vs->P l vs->P (v::l) (rv::vs)) {l:List V} {vs:List Ae} (x:bT h F l vs):P l vs:=
 bT.rec (motive_1:=λO O O=>True) (motive_2:=λl vs O=>P l vs) trivial (λO=>trivial) (λO O=>trivial) (λO O=>trivial) (λO O=>trivial) (λO=>trivial) (λO O O O=>trivial) (λO O O O=>trivial) nil (λa b O d=>cons a b d) x
theorem bT.mono {h h':Heap} {F F':List Addr} (E:bx F F' h h') {l:List V} {vs:List Ae} (x:bT h F l vs):bT h' F' l vs:=x.ind .nil λa O b=>.cons (a.mono E) b
theorem bT.un0 {h:Heap} {F:List Addr} {us:List Ae} (x:bT h F [] us):us=[]:=by cases x;rfl
theorem bT.unc {h:Heap} {F:List Addr} {v:V} {l:List V} {us:List Ae} (x:bT h F (v::l) us):∃ u us',us=u::us'∧VR h F v u∧bT h F l us':=by
 cases x with | cons a b=>exact ⟨_,_,rfl,a,b⟩
theorem bT.one {h:Heap} {F:List Addr} {a:V} {rs:List Ae} (x:bT h F [a] rs):∃ r,rs=[r]∧VR h F a r:=fg x.unc λu us e a b=>⟨u,by rw [e,b.un0],a⟩
theorem bT.two {h:Heap} {F:List Addr} {a b:V} {rs:List Ae} (x:bT h F [a,b] rs):∃ r q,rs=[r,q]∧VR h F a r∧VR h F b q:=fg x.unc λu us e a b=>an b.one λq e2 y=>⟨u,q,by rw [e,e2],a,y⟩
noncomputable def asd (h:Heap) (F:List Addr) (v:V) (r:Ae):Prop:=match v with
 | .none=>r=.none
 | .bool b=>r=.bool b
 | .int i=>∃ t,r=.int i t
 | .str s=>∃ t,r=.str s t
 | .bytes b=>∃ t,r=.bytes ⟨b⟩ t
 | .obj a=>r=.ref a
 | .tup l=>∃ vs a n,r=.ref a∧a∉F∧h.get? a=some ⟨.type "tuple",.none,.seq ⟨vs⟩ n,#[]⟩∧bT h F l vs
 | .list l=>∃ vs a n,r=.ref a∧a∉F∧h.get? a=some ⟨.type "list",.none,.seq ⟨vs⟩ n,#[]⟩∧bT h F l vs
theorem VR.inv {h:Heap} {F:List Addr} {v:V} {r:Ae} (x:VR h F v r):asd h F v r:=by
 cases x with
 | none=>rfl
 | bool=>rfl
 | int _ t=>exact ⟨t,rfl⟩
 | str _ t=>exact ⟨t,rfl⟩
 | bytes _ t=>exact ⟨t,rfl⟩
 | obj=>rfl
 | tup a b d=>exact ⟨_,_,_,rfl,a,b,d⟩
 | list a b d=>exact ⟨_,_,_,rfl,a,b,d⟩
end Mine
namespace Mine
open PySem PySem.W PyProof.Rows PySem.Calls
noncomputable def iE:List String:=["bytearray.__contains__","bytearray.__mod__","bytearray.__rmod__","_struct.pack_into.held","bytearray.find.held"]++Builtin.Bytes.decodersThatHold
noncomputable def okc:Code->Bool
 | .builtin id _=>!iE.contains id
 | _=>true
noncomputable def Cl (l:List (Code × Pos)):Prop:=∀ x∈l,okc x.1=true
theorem Cl.cons {c:Code} {p:Pos} {l:List (Code × Pos)} (h:okc c=true) (hl:Cl l):Cl ((c,p)::l):=λx hx=>(List.mem_cons.mp hx).elim (λe=>e▸h) (hl x)
noncomputable def av {α:Type} (M:Model) (A:Around) (t:Sem α) (Q:α->Ad->Prop) (E:Ae->Ad->Prop) (s:Ad):Prop:=
 ∀ (Γ:Ctx) (p:Pos),Γ.In A->okc Γ.code=true->Cl Γ.below->Sem.wp M Γ t (λa O s'=>Q a s') (λe O s'=>E e s') p s
noncomputable def bf (M:Model) (A:Around) (c:Code) (R:Result->Ad->Prop) (s:Ad):Prop:=
 ∀ (Γ:Ctx) (p:Pos),Γ.code=c->Γ.Below A->Cl Γ.below->wpCode M Γ R p s
section
variable {α β:Type} {M:Model} {A:Around} {E E':Ae->Ad->Prop} {s:Ad} {env:Env}
theorem av.of {t:Sem α} {Q:α->Ad->Prop} (h:AF M A t Q E s):av M A t Q E s:=λΓ p a O O=>h Γ p a
theorem bf.of {c:Code} {R:Result->Ad->Prop} (h:Hf M A c R s):bf M A c R s:=λΓ p a b O=>h Γ p a b
theorem ai {t:Sem α} {Q Q':α->Ad->Prop} (h:av M A t Q E s) (hQ:∀ a s,Q a s->Q' a s) (hE:∀ e s,E e s->E' e s):av M A t Q' E' s:=
 λΓ p a b d=>Fy M Γ t (λa O s=>hQ a s) (λe O s=>hE e s) p s (h Γ p a b d)
theorem am {t:Sem α} {f:α->Sem β} {Q:β->Ad->Prop} (h:av M A t (λa s'=>av M A (f a) Q E s') E s):av M A (t>>=f) Q E s:=λΓ p a b d=>by
 rw [Sem.wp_bind']
 exact Fy M Γ t (λx p' s' h'=>h' Γ p' a b d) (λO O O h'=>h') p s (h Γ p a b d)
theorem aw {t:Sem α} {f:α->Sem β} {P:α->Ad->Prop} {Q:β->Ad->Prop} (h:av M A t P E s) (k:∀ a s',P a s'->av M A (f a) Q E s'):av M A (t>>=f) Q E s:=am (ai h k λO O x=>x)
theorem aq {a:α} {Q:α->Ad->Prop} (h:Q a s):av M A (pure a) Q E s:=λO O O O O=>h
theorem bM {f:Unit->Sem β} {pos:Pos} {Q:β->Ad->Prop} (h:av M A (f ()) Q E s):av M A (DR pos>>=f) Q E s:=am (.of (FG h))
theorem xw {f:Unit->Sem β} {tag:String} {Q:β->Ad->Prop} (h:av M A (f ()) Q E s):av M A (rule tag>>=f) Q E s:=am (.of (C7 h))
theorem aH {vs:List Ae} {t:Sem α} {Q:α->Ad->Prop} (h:av M A t Q E s):av M A (CW vs t) Q E s:=λΓ p a b d=>by rw [Sem.wp_holding];exact h Γ p a b d
theorem fG {vs:List Ae} {t:Sem Ae} {Q:Ae->Ad->Prop} (h:av M A t Q E s):av M A (operate vs t) Q E s:=λΓ p a b d=>by rw [Sem.wp_operate];exact h Γ p a b d
theorem akv {vs:List Ae} {t:Sem α} {Q:α->Ad->Prop} (h:av M A t Q E s):av M A (t.keep vs) Q E s:=λΓ p a b d=>by rw [Sem.wp_keep];exact h Γ p a b d
theorem sH {t:Sem α} {k:Ae->Sem Unit} {Q:α->Ad->Prop} (h:av M A t Q (λe s'=>av M A (k e) (λO s''=>E e s'') E s') s):av M A (t.onRaise k) Q E s:=λΓ p a b d=>by
 rw [Sem.wp_onRaise]
 exact Fy M Γ t (λO O O h'=>h') (λe p' s' h'=>h' Γ p' a b d) p s (h Γ p a b d)
theorem sI {t:Sem α} {Q:Except Ae α->Ad->Prop} (h:av M A t (λa=>Q (.ok a)) (λe=>Q (.error e)) s):av M A t.attempt Q E s:=λΓ p a b d=>by rw [Sem.wp_attempt];exact h Γ p a b d
set_option backward.match.sparseCases true in
theorem ajg {c:Code} {h:Option Ae} {Q:Flow->Ad->Prop} (hc:bf M (A.mark h) c (λr s'=>match r with | .ok f=>Q f s' | .error e=>E e s') s) (hnb:h≠some byPass):av M A (run c h) Q E s:=
 λΓ p a b d=>by rw [Sem.wp_run];exact hc _ p rfl (a.enter c h p hnb) (d.cons b)
set_option backward.match.sparseCases true in
theorem xy {c:Code} {Q:Ae->Ad->Prop} (hc:bf M A c (λr s'=>match r with | .ok (.ret v)=>Q v s' | .ok _=>False | .error e=>E e s') s):av M A (runValue c) Q E s:=
 λΓ p a b d=>by rw [Sem.wp_runValue];exact hc _ p rfl (a.enter c none p (by intro x;cases x)) (d.cons b)
set_option backward.match.sparseCases true in
theorem kB {f:Ae} {pos:List Ae} {kw:List (Str × Ae)} {Q:Ae->Ad->Prop} (hc:bf M A (.call f ⟨pos,kw⟩) (λr s'=>match r with | .ok (.ret v)=>Q v s' | .ok _=>False | .error e=>E e s') s):av M A (call f pos kw) Q E s:=xy hc
theorem jE {c:Code} {R R':Result->Ad->Prop} (h:bf M A c R s) (hR:∀ r s',R r s'->R' r s'):bf M A c R' s:=λΓ p a b d=>wpCode_mono hR (h Γ p a b d)
noncomputable def Fn (M:Model) (A:Around) (R:Result->Ad->Prop) (fin:Fin) (s':Ad):Prop:=match fin with
 | .done f=>R (.ok f) s'
 | .again c'=>c'.quiet=true∧bf M A c' R s'
theorem cy {c:Code} {R:Result->Ad->Prop} (h:av M (A.under c) (M.den c) (Fn M A R) (λe s'=>R (.error e) s') s) (ho:okc c=true):bf M A c R s:=λΓ p hc hΓ d=>by
 rw [wpCode_iff_wp,hc]
 refine Fy M Γ _ (λfin p' s' h'=>?_) (λO O O h'=>h') p s (h Γ p (hc▸hΓ.in) (hc▸ho) d)
 cases fin with
 | done f=>exact h'
 | again c'=>exact ⟨h'.1,h'.2 (Γ.goto c') p' rfl (hΓ.goto c') d⟩
theorem mT {c:Code} {R:Result->Ad->Prop} (ho:okc c=true) (hq:c.quiet=true) (I:Nat->Ad->Prop)
 (turn:∀ n s,I n s->av M (A.under c) (M.den c) (λfin s'=>match fin with
  | .done f=>R (.ok f) s'
  | .again c'=>(c'=c∧∃ m,m <n∧I m s')∨(c'.quiet=true∧bf M A c' R s')) (λe s'=>R (.error e) s') s)
 (n:Nat) (h:I n s):bf M A c R s:=by
 induction n using Nat.strongRecOn generalizing s with
 | ind n ih=>
  refine cy (ai (turn n s h) (λfin s' hf=>?_) λO O h'=>h') ho
  cases fin with
  | done f=>exact hf
  | again c'=>
   rcases hf with ⟨rfl,m,hm,hI⟩ | hf
   ·exact ⟨hq,ih m hm hI⟩
   ·exact hf
theorem dff {p:Prop} [Decidable p] {a:p->Bool} {b:¬p->Bool} (ha:p->False) (hb:∀ h,b h=false):dite p a b=false:=(dif_neg ha).trans (hb ha)
theorem xz {v:Ae} {Q:Bool->Ad->Prop} (h:Q false s):av M A (Gk v) Q E s:=λΓ p a b d=>by
 have no:∀ (id:String) (args:Args),iE.contains id=true->okc (.builtin id args)=true->False:=λid args a b=>by
  have b:(!iE.contains id)=true:=b
  rw [a] at b;cases b
 have e:∀ (l:List (Code × Pos)) (f:Code × Pos->Bool),(∀ x∈l,f x=false)->l.any f=false:=λl f h=>List.any_eq_false.mpr λx hx=>by rw [h x hx];exact AK
 show Q (List.any ((Γ.code,p)::Γ.below) _) s
 rewrite [e _ _ λx hx=>?_]
 ·exact h
 ·have hx:=Cl.cons (p:=p) b d x hx
  obtain ⟨co,p⟩:=x
  cases co with
  | builtin id args=>
   have n0:∀ w:String,iE.contains w=true->id=w->False:=λw a q=>no id args (by rw [q];exact a) hx
   delta Hq
   refine dff (p:=id="bytearray.__contains__") (n0 _ (by decide+kernel)) λO=>dff (p:=id="bytearray.__mod__") (n0 _ (by decide+kernel)) λO=>dff (p:=id="bytearray.__rmod__") (n0 _ (by decide+kernel)) λO=>dff (p:=id="_struct.pack_into.held") (n0 _ (by decide+kernel)) λO=>dff (p:=id="bytearray.find.held") (n0 _ (by decide+kernel)) λO=>?_
   obtain ⟨ps,kw⟩:=args
   cases ps with
   | nil=>rfl
   | cons v tl=>
    refine Bool.eq_false_iff.mpr λq=>no id ⟨v::tl,kw⟩ ?_ hx
    have q:=(Al _ _▸q).2
    exact List.contains_iff_mem.mpr (Aa _ (List.contains_iff_mem.mp q))
  | _=>rfl
end
section
variable {prog:Program} {w:World} {M:Model} {A:Around} {E:Ae->Ad->Prop} {s:Ad} {env:Env}
theorem zN {op:UnaryOp} {x:Expr} {pos:Pos} {Q:Ae->Ad->Prop} (h:av M A (eval x env) (λv s₁=>av M A (unaryOp op v) Q E s₁) E s):av M A (eval (.UnaryOp op x pos) env) Q E s:=by
 rw [arm_eval_UnaryOp]
 exact aw h λv s₁ h₁=>bM (aH h₁)
theorem agl {test body orelse:Expr} {pos:Pos} {Q:Ae->Ad->Prop} (h:av M A (Bj test env (eval test env)) (λb s₁=>if b then av M A (eval body env) Q E s₁ else av M A (eval orelse env) Q E s₁) E s):av M A (eval (.IfExp test body orelse pos) env) Q E s:=by
 rw [arm_eval_IfExp]
 refine aw h λb s₁ h₁=>?_
 cases b <;> exact h₁
theorem akw {x y:Expr} {pos:Pos} {Q:Ae->Ad->Prop} (h:av M A (eval x env) (λv s₁=>av M A (FH v) (λt s₂=>if t then av M A (eval y env) Q E s₂ else Q v s₂) E s₁) E s):av M A (eval (.BoolOp .And [x,y] pos) env) Q E s:=by
 refine aw (t:=eval x env) h λv s₁ h₁=>bM (aw (aH h₁) λt s₂ h₂=>?_)
 cases t with
 | false=>exact aq h₂
 | true=>exact h₂
theorem agm {l op r pos} {Q:Ae->Ad->Prop} (h:av M A (eval l env) (λa s₁=>av M A (eval r env) (λb s₂=>av M A (CC op a b) Q E s₂) E s₁) E s):av M A (eval (.BinOp l op r pos) env) Q E s:=by
 rw [eval_BinOp]
 exact aw h λa s₁ h₁=>aw (aH h₁) λb s₂ h₂=>bM (fG h₂)
theorem xA {l op r pos} {Q:Ae->Ad->Prop} (h:av M A (eval l env) (λa s₁=>av M A (eval r env) (λb s₂=>av M A (AU op a b) Q E s₂) E s₁) E s)
 (hm:Er op r=false):av M A (eval (.Compare l [op] [r] pos) env) Q E s:=by
 rw [eval_Compare1]
 simp only [FQ hm]
 exact aw h λa s₁ h₁=>aw (aH h₁) λb s₂ h₂=>bM (fG h₂)
theorem lK {l op r pos whole} {Q:Bool->Ad->Prop} (h:av M A (eval l env) (λa s₁=>av M A (eval r env) (λb s₂=>av M A (AU op a b) (λc s₃=>av M A (FH c) Q E s₃) E s₂) E s₁) E s)
 (hm:Er op r=false):av M A (Bj (.Compare l [op] [r] pos) env whole) Q E s:=by
 rw [isTrue_Compare1]
 simp only [FQ hm]
 exact aw h λa s₁ h₁=>aw (aH h₁) λb s₂ h₂=>bM (aw (fG h₂) λc s₃ h₃=>aH h₃)
theorem acd {e:Expr} {whole:Sem Ae} {Q:Bool->Ad->Prop} (h:av M A whole (λv s₁=>av M A (FH v) Q E s₁) E s)
 (he:Bj e env whole=(do let v ← whole;DR e.pos;CW [v] (FH v))):av M A (Bj e env whole) Q E s:=by
 rw [he]
 exact aw h λv s₁ h₁=>bM (aH h₁)
theorem tG {x pos whole} {Q:Bool->Ad->Prop} (h:av M A (Bj x env (eval x env)) (λc s'=>Q (!c) s') E s):av M A (Bj (.UnaryOp .Not x pos) env whole) Q E s:=
 aw (t:=Bj x env (eval x env)) h λc s' h'=>aq h'
theorem tH {x rest pos whole} {Q:Bool->Ad->Prop} (h:av M A (Bj x env (eval x env)) (λc s'=>if c then av M A (Bj (.BoolOp .And rest pos) env whole) Q E s' else Q false s') E s):av M A (Bj (.BoolOp .And (x::rest) pos) env whole) Q E s:=by
 refine aw (t:=Bj x env (eval x env)) h λc s' h'=>?_
 cases c with
 | false=>exact aq h'
 | true=>exact h'
theorem u6 {x rest pos whole} {Q:Bool->Ad->Prop} (h:av M A (Bj x env (eval x env)) (λc s'=>if c then Q true s' else av M A (Bj (.BoolOp .Or rest pos) env whole) Q E s') E s):av M A (Bj (.BoolOp .Or (x::rest) pos) env whole) Q E s:=by
 refine aw (t:=Bj x env (eval x env)) h λc s' h'=>?_
 cases c with
 | false=>exact h'
 | true=>exact aq h'
theorem cV {x:Sem Ae} {rest:List (Bool × Sem Ae)} {Q:List Ae->Ad->Prop} (h:av M A x (λv s₁=>av M A (EW rest) (λvs s₂=>Q (v::vs) s₂) E s₁) E s):av M A (EW ((false,x)::rest)) Q E s:=by
 rw [EW]
 refine aw h λv s₁ h₁=>?_
 rw [if_neg AK]
 exact am (aq (aw (aH h₁) λvs s₂ h₂=>aq h₂))
theorem agn {elts:List Expr} {k:Nat} {pos:Pos} {Q:Ae->Ad->Prop}
 (h:av M A (EW (AY pos (Ay elts env))) (λvs s₁=>vs.length≤Dn∧Q (.ref s₁.heap.objs.size) { s₁ with heap:=s₁.heap.push { cls:=.type "tuple",data:=.seq vs.toArray } }) E s):av M A (eval (.Tuple elts k pos) env) Q E s:=by
 rw [arm_eval_Tuple]
 exact bM (aw h λvs s₁ h₁=>.of (CP h₁.2 (by show vs.toArray.size≤Dn;rw [Bl];exact h₁.1)))
theorem xB {elts:List Expr} {pos:Pos} {Q:Ae->Ad->Prop}
 (h:av M A (EW (AY pos (Ay elts env))) (λvs s₁=>vs.length≤Dn∧Q (.ref s₁.heap.objs.size) { s₁ with heap:=s₁.heap.push { cls:=.type "list",data:=.seq vs.toArray } }) E s):av M A (eval (.List elts pos) env) Q E s:=by
 rw [arm_eval_List]
 exact bM (aw h λvs s₁ h₁=>.of (CP h₁.2 (by show vs.toArray.size≤Dn;rw [Bl];exact h₁.1)))
theorem akx {value:Expr} {attr:Str} {pos:Pos} {Q:Ae->Ad->Prop} (h:av (At prog w) A (eval value env) (λo s₁=>av (At prog w) A (Hg o attr true) Q E s₁) E s)
 (he:eval (.Attribute value attr pos) env=(do
  let o ← eval value env
  DR pos.atName
  let r ← CW [o] (Hg o attr true)
  GU value o r
  pure r)):av (At prog w) A (eval (.Attribute value attr pos) env) Q E s:=by
 rw [he]
 exact aw h λo s₁ h₁=>bM (aw (aH h₁) λr s₂ h₂=>am (.of (wpAny_letTemporaryGo (aq h₂))))
theorem ou {value slice pos} {Q:Ae->Ad->Prop} (h:av M A (eval value env) (λo s₁=>av M A (eval slice env) (λi s₂=>av M A (subscriptTail value slice o i) Q E s₂) E s₁) E s):av M A (eval (.Subscript value slice pos) env) Q E s:=by
 rw [eval_Subscript]
 exact aw h λo s₁ h₁=>aw (aH h₁) λi s₂ h₂=>bM h₂
theorem lL {o:Expr} {name:Str} {apos pos:Pos} {args:List Expr} {pl:Sem Bool} {Q:Ae->Ad->Prop}
 (h:av M A (eval o env) (λov s₁=>av M A (DY ov name pl) (λfx s₂=>av M A (Do pos fx.1 fx.2 (AY pos (Ay args env)) []) Q E s₂) E s₁) E s)
 (he:eval (.Call (.Attribute o name apos) args [] pos) env=(do
  let ov ← eval o env
  DR apos.atName
  let (f,first) ← CW [ov] (DY ov name pl)
  Do pos f first (AY pos (Ay args env)) [])):av M A (eval (.Call (.Attribute o name apos) args [] pos) env) Q E s:=by
 rw [he]
 exact aw h λov s₁ h₁=>bM (aw (aH h₁) λfx s₂ h₂=>h₂)
theorem dz {x:Str} {np pos:Pos} {args:List Expr} {keywords:List Keyword} {Q:Ae->Ad->Prop}
 (h:av M A (eval (.Name x np) env) (λf s₁=>av M A (Do pos f [] (AY pos (Ay args env)) (backToKw pos (keywordEach keywords env))) Q E s₁) E s):av M A (eval (.Call (.Name x np) args keywords pos) env) Q E s:=am h
theorem ace {α:Type} {c:Prop} [Decidable c] {a b:Sem α} {Q:α->Ad->Prop} (h1:av M A a Q E s) (h2:av M A b Q E s):av M A (if c then a else b) Q E s:=by
 by_cases q:c
 ·rw [if_pos q];exact h1
 ·rw [if_neg q];exact h2
theorem eu {P:Heap->Prop} {f:Ae} {first:List Ae} {pos:Pos} {Q:Ae->Ad->Prop} {args:List (Bool × Sem Ae)} {keywords:List (Option Str × Sem Ae)} (hplain:(args.any (·.1)||keywords.any (·.1.isNone))=false)
 (hk:∀ h,P h->∃ k,(k=Keeper.frame∨k=Keeper.machine∨k=Ii)∧Dp M h (keeperOf f) k)
 (h:av M A (evalArgs f true args keywords) (λa s₁=>P s₁.heap∧av M A (call f (first++a.pos) a.kw) Q E s₁) E s):av M A (Do pos f first args keywords) Q E s:=by
 unfold Do
 show[aw (aH h) λa s₁ h₁=>bM ?_,an (hk _ h₁.1) λk hk' L=>?_]
 rw [hplain]
 refine am (.of (L.here ?_))
 have tail:∀ {t:Sem Ae},av M A t Q E s₁->av M A (t>>=λr=>CW [r] point>>=λO=>pure r) Q E s₁:=
  λht=>aw ht λr s₂ hr=>am (aH (.of (IU (aq hr))))
 have marked (mk:Ae):av M A (callMarked mk f (first++a.pos) a.kw) Q E s₁:=akv h₁.2
 rcases hk' with e | e | e
 ·rw [e];exact ace (tail h₁.2) (tail (marked _))
 ·rw [e];exact tail h₁.2
 ·rw [e];exact ace (tail h₁.2) (tail (marked _))
theorem ew {f:Ae} {ts:List (Bool × Sem Ae)} {Q:Args->Ad->Prop} (hp:ts.any (·.1)=false) (h:av M A (EW ts) (λvs s'=>Q ⟨vs,[]⟩ s') E s):av M A (evalArgs f true ts []) Q E s:=by
 cases ts with
 | nil=>
  unfold evalArgs
  exact aw (t:=EW []) h λvs s' h'=>am (aq (aH (am (aq (am (aq (aq h')))))))
 | cons p rest=>
  obtain ⟨b,x⟩:=p
  rw [FF,GV] at hp
  obtain rfl:b=false:=hp.1
  unfold evalArgs
  exact aw (t:=EW ((false,x)::rest)) h λvs s' h'=>aH (am (aq (am (aq (aq h')))))
theorem ago {l op₁ op₂ ops r₁ r₂ rs pos} {Q:Ae->Ad->Prop} (h:av M A (eval l env) (λa s₁=>av M A (EX pos a (op₁::op₂::ops) (eval r₁ env::eval r₂ env::evalEach rs env)) Q E s₁) E s)
 (hm:IH (op₁::op₂::ops) (r₁::r₂::rs)=false):av M A (eval (.Compare l (op₁::op₂::ops) (r₁::r₂::rs) pos) env) Q E s:=by
 show av M A (do EX pos (← eval l env) (op₁::op₂::ops) (markedEach (op₁::op₂::ops) (r₁::r₂::rs) (evalEach (r₁::r₂::rs) env))) Q E s
 rw [Hr _ _ _ hm]
 exact am h
theorem pI {l op₁ op₂ ops r₁ r₂ rs pos whole} {Q:Bool->Ad->Prop} (h:av M A (eval l env) (λa s₁=>av M A (Hi pos a (op₁::op₂::ops) (eval r₁ env::eval r₂ env::evalEach rs env)) Q E s₁) E s)
 (hm:IH (op₁::op₂::ops) (r₁::r₂::rs)=false):av M A (Bj (.Compare l (op₁::op₂::ops) (r₁::r₂::rs) pos) env whole) Q E s:=by
 show av M A (do Hi pos (← eval l env) (op₁::op₂::ops) (markedEach (op₁::op₂::ops) (r₁::r₂::rs) (evalEach (r₁::r₂::rs) env))) Q E s
 rw [Hr _ _ _ hm]
 exact am h
theorem tI {pos:Pos} {a:Ae} {op op':Ex} {ops:List Ex} {r r':Sem Ae} {rs:List (Sem Ae)} {Q:Ae->Ad->Prop}
 (h:av M A r (λb s₁=>av M A (AU op a b) (λc s₂=>av M A (FH c) (λt s₃=>if t then av M A (EX pos b (op'::ops) (r'::rs)) Q E s₃ else Q c s₃) E s₂) E s₁) E s):av M A (EX pos a (op::op'::ops) (r::r'::rs)) Q E s:=by
 refine aw (t:=CW [a] r) (aH h) λb s₁ h₁=>bM (aw (aH h₁) λc s₂ h₂=>am (.of (wpAny_release' (aw (aH h₂) λt s₃ h₃=>?_))))
 cases t with
 | false=>exact aq h₃
 | true=>exact h₃
theorem tJ {pos:Pos} {a:Ae} {op:Ex} {r:Sem Ae} {Q:Ae->Ad->Prop} (h:av M A r (λb s₁=>av M A (AU op a b) Q E s₁) E s):av M A (EX pos a [op] [r]) Q E s:=
 aw (t:=CW [a] r) (aH h) λb s₁ h₁=>bM (fG h₁)
theorem u7 {pos:Pos} {a:Ae} {op op':Ex} {ops:List Ex} {r r':Sem Ae} {rs:List (Sem Ae)} {Q:Bool->Ad->Prop}
 (h:av M A r (λb s₁=>av M A (AU op a b) (λc s₂=>av M A (FH c) (λt s₃=>if t then av M A (Hi pos b (op'::ops) (r'::rs)) Q E s₃ else Q false s₃) E s₂) E s₁) E s):av M A (Hi pos a (op::op'::ops) (r::r'::rs)) Q E s:=by
 refine aw (t:=CW [a] r) (aH h) λb s₁ h₁=>bM (aw (aH h₁) λc s₂ h₂=>am (.of (wpAny_release' (aw (aH h₂) λt s₃ h₃=>?_))))
 cases t with
 | false=>exact aq h₃
 | true=>exact h₃
theorem u8 {pos:Pos} {a:Ae} {op:Ex} {r:Sem Ae} {Q:Bool->Ad->Prop} (h:av M A r (λb s₁=>av M A (AU op a b) (λc s₂=>av M A (FH c) Q E s₂) E s₁) E s):av M A (Hi pos a [op] [r]) Q E s:=
 aw (t:=CW [a] r) (aH h) λb s₁ h₁=>bM (aw (fG h₁) λc s₂ h₂=>aH h₂)
theorem agp {lower upper step:Option Expr} {p:Pos} {Q:Ae->Ad->Prop}
 (h:av M A (evalPart lower env) (λl s₁=>av M A (evalPart upper env) (λu s₂=>av M A (evalPart step env) (λst s₃=>Q (.ref s₃.heap.objs.size) { s₃ with heap:=s₃.heap.push { cls:=.type "slice",data:=.fields #[l,u,st] } }) E s₂) E s₁) E s):av M A (eval (.Slice lower upper step p) env) Q E s:=by
 rw [arm_eval_Slice]
 exact aw h λl s₁ h₁=>aw (aH h₁) λu s₂ h₂=>aw (aH h₂) λst s₃ h₃=>.of (CP h₃)
theorem lM {st rest} {Q:Flow->Ad->Prop} (h:av M A (exec st env) (λf s'=>match f with | .next=>av M A (Cw rest env) Q E s' | f=>Q f s') E s):av M A (Cw (st::rest) env) Q E s:=by
 rw [execs_cons]
 refine aw h λf s' h'=>?_
 cases f <;> first | exact h' | exact aq h'
theorem ase {test body orelse pos} {Q:Flow->Ad->Prop} (h:av M A (Bj test env (eval test env)) (λb s₂=>if b then av M A (Cw body env) Q E s₂ else av M A (Cw orelse env) Q E s₂) E s):av M A (exec (.If test body orelse pos) env) Q E s:=by
 rw [exec_If]
 refine bM (aw h λb s₂ h₂=>?_)
 cases b <;> exact h₂
theorem acf {e pos} {Q:Flow->Ad->Prop} (h:av M A (eval e env) (λv=>Q (.ret v)) E s):av M A (exec (.Return (some e) pos) env) Q E s:=by
 rw [exec_Return_some]
 exact bM (aw h λv s' h'=>aq h')
theorem acg {e pos} {Q:Flow->Ad->Prop} (h:av (At prog w) A (eval e env) (λO=>Q .next) E s)
 (hi:Ey env=false) (hs:Hj e none pos.line env=pure false):av (At prog w) A (exec (.Expr e pos) env) Q E s:=by
 rw [exec_Expr env e pos hi hs]
 exact bM (aw h λv s' h'=>.of (wpAny_dropValue h'))
theorem ach {targets:List Expr} {value:Expr} {pos:Pos} {Q:Flow->Ad->Prop} (h:av M A (eval value env) (λv s₁=>av M A (assignAll v ((Bo targets env).map (·.2))) (λO=>Q .next) E s₁) E s)
 (hs:DM targets value pos.line env=pure false) (hw:Dg targets value env=pure none):av M A (exec (.Assign targets value pos) env) Q E s:=by
 rw [exec_Assign_arm]
 show[bM]
 rw [hs]
 refine am (aq ?_)
 rw [if_neg (by decide)]
 refine aw h λv s₁ h₁=>?_
 rw [hw]
 refine am (aq ?_)
 show av M A (assignAll v ((Bo targets env).map (·.2))>>=λO=>pure Flow.next) Q E s₁
 exact aw h₁ λO O x=>aq x
theorem mU {elts k tpos value pos} {names:List Str} {Q:Flow->Ad->Prop}
 (h:av M A (eval value env) (λv s₁=>av M A (IV v names.length none) (λitems s₂=>av M A (Dh (names.reverse.map λn=>Ij env n) items.reverse) (λO=>Q .next) E s₂) E s₁) E s)
 (hs:DM [.Tuple elts k tpos] value pos.line env=pure false) (hw:Dg [.Tuple elts k tpos] value env=pure (some names)):av M A (exec (.Assign [.Tuple elts k tpos] value pos) env) Q E s:=by
 rw [exec_Assign_arm]
 show[bM]
 rw [hs]
 refine am (aq ?_)
 rw [if_neg (by decide)]
 refine aw h λv s₁ h₁=>?_
 rw [hw]
 exact am (aq (xw (aw h₁ λitems s₂ h₂=>aw h₂ λO O x=>aq x)))
theorem oE {t:Ae->Sem Unit} {ts:List (Ae->Sem Unit)} {x:Ae} {xs:List Ae} {Q:Unit->Ad->Prop} (h:av M A (t x) (λO s₁=>av M A (Dh ts xs) Q E s₁) E s):av M A (Dh (t::ts) (x::xs)) Q E s:=am (aH h)
theorem pJ {elts:List Expr} {x1} {pos:Pos} {t:Addr} {items:Array Ae} {Q:Unit->Ad->Prop} (hh:A.handled=none) (ht:s.heap.IsTuple t items)
 (hn:(Bo elts env).length=items.size) (hstar:(Bo elts env).findIdx? (·.1)=none)
 (h:∀ h',GW s.heap.objs.size s.heap h'->av (At prog w) A (Dh ((Bo elts env).map (·.2)) items.toList) Q E { s with heap:=h' }):av (At prog w) A (assign (.Tuple elts x1 pos) env (.ref t)) Q E s:=by
 rw [arm_assign_Tuple]
 show[bM]
 unfold unpack
 rw [hn,hstar]
 exact am (aH (.of (FR hh ht h)))
theorem fh {α:Type} {t:Sem α} {k:Ae->Sem Unit} {Q:α->Ad->Prop} (h:av M A t Q (λe s'=>AF M A (k e) (λO s''=>E e s'') E s') s):av M A (t.onRaise k) Q E s:=sH (ai h (λO O x=>x) λO O x=>.of x)
theorem vc {c:Code} {h:Option Ae} {Q:Flow->Ad->Prop} (hc:bf M (A.mark h) c (λr s'=>match r with | .ok f=>Q f s' | .error e=>HN M A env E e s') s) (hnb:h≠some byPass):av M A (runOwn c env h) Q E s:=by
 unfold runOwn
 exact fh (ajg hc hnb)
theorem o8 {α:Type} {m:Sem α} {Q:α->Ad->Prop} (h:av M A m Q (CL M A env E) s):av M A (m.onRaise λx=>do DZ x env;DS x) Q E s:=
 fh (ai h (λO O q=>q) λO O hx=>Ac (BC hx (λO O e=>wpAny_theTreesLotGoes e) λO O e=>e))
theorem agq {test body orelse pos} {Q:Flow->Ad->Prop} (h:bf M A (.whileLoop test body orelse env) (λr s'=>match r with | .ok f=>Q f s' | .error e=>HN M A env E e s') s):av M A (exec (.While test body orelse pos) env) Q E s:=by
 rw [exec_While];exact bM (vc (h:=none) h nofun)
theorem aoe {target iter body orelse pos} {Q:Flow->Ad->Prop}
 (h:av M A (eval iter env) (λx s₁=>av M A (II x) (λit s₂=>bf M A (.forLoop target it body orelse env) (λr s'=>match r with | .ok f=>Q f s' | .error e=>HN M A env E e s') s₂) E s₁) E s)
 (hs:∀ x,CQ iter env x=pure x):av M A (exec (.For target iter body orelse pos) env) Q E s:=by
 rw [exec_For]
 exact bM (aw h λx s₁ h₁=>am (.of (AA (hs x) (bM (aw (aH h₁) λit s₂ h₂=>vc (h:=none) h₂ nofun)))))
variable {R:Result->Ad->Prop}
theorem xC {stmts:List Stmt} (h:av (At prog w) A (Cw stmts env) (λf s'=>R (.ok f) s') (CL (At prog w) A env λe s'=>R (.error e) s') s):bf (At prog w) A (.block stmts env) R s:=by
 refine cy ?_ rfl
 show av _ _ ((Cw stmts env).onRaise (λx=>do DZ x env;DS x)>>=λf=>pure (Fin.done f)) _ _ s
 exact am (o8 (ai h (λf s' h'=>aq h') λO O h'=>h'))
theorem xD {test body orelse} (I:Nat->Ad->Prop)
 (turn:∀ n s,I n s->av (At prog w) A (Bj test env (eval test env)) (λb s₂=>
  if b then av (At prog w) A (Cw body env) (λf s₃=>match f with
   | .next | .cont=>∃ m,m <n∧I m s₃
   | .brk=>R (.ok .next) s₃
   | .ret v=>R (.ok (.ret v)) s₃) (CL (At prog w) A env λe s'=>R (.error e) s') s₂
  else av (At prog w) A (Cw orelse env) (λf s₃=>R (.ok f) s₃) (CL (At prog w) A env λe s'=>R (.error e) s') s₂)
  (CL (At prog w) A env λe s'=>R (.error e) s') s)
 (n:Nat) (h:I n s):bf (At prog w) A (.whileLoop test body orelse env) R s:=by
 refine mT rfl rfl I (λn s hI=>?_) n h
 show av _ A ((whileTurn test body orelse env).onRaise (λx=>do DZ x env;DS x)) _ _ s
 show[o8]
 simp only [whileTurn]
 refine aw (turn n s hI) λb s₂ h₂=>?_
 cases b with
 | false=>
  simp only [C8,if_false] at h₂ ⊢
  exact aw h₂ λf s₃ h₃=>aq h₃
 | true=>
  simp only [if_true] at h₂ ⊢
  refine aw h₂ λf s₃ h₃=>?_
  cases f with
  | next=>exact aq (.inl ⟨rfl,h₃⟩)
  | cont=>exact aq (.inl ⟨rfl,h₃⟩)
  | brk=>exact aq h₃
  | ret v=>exact aq h₃
theorem aci {target it body orelse} (I:Nat->Ad->Prop)
 (turn:∀ n s,I n s->av (At prog w) A (pyNext it) (λr s₁=>match r with
  | none=>av (At prog w) A (Cw orelse env) (λf s₃=>R (.ok f) s₃) (CL (At prog w) A env λe s'=>R (.error e) s') s₁
  | some v=>av (At prog w) A (Dd target it v) (λO s₁'=>
   av (At prog w) A (assign target env v) (λO s₂=>av (At prog w) A (Cw body env) (λf s₃=>match f with
    | .next | .cont=>∃ m,m <n∧I m s₃
    | .brk=>R (.ok .next) s₃
    | .ret v=>R (.ok (.ret v)) s₃) (CL (At prog w) A env λe s'=>R (.error e) s') s₂) (CL (At prog w) A env λe s'=>R (.error e) s') s₁') (CL (At prog w) A env λe s'=>R (.error e) s') s₁) (CL (At prog w) A env λe s'=>R (.error e) s') s)
 (n:Nat) (h:I n s):bf (At prog w) A (.forLoop target it body orelse env) R s:=by
 refine mT rfl rfl I (λn s hI=>?_) n h
 show av _ A ((forTurn target it body orelse env).onRaise (λx=>do DZ x env;DS x)) _ _ s
 show[o8]
 simp only [forTurn]
 refine bM (am (fh (ai (turn n s hI) (λr s₁ h₁=>?_) λO O h'=>FG h')))
 cases r with
 | none=>exact aq (.inr ⟨rfl,xC h₁⟩)
 | some v=>
  refine aw h₁ λO s₁' h₁'=>aw h₁' λO s₂ h₂=>aw h₂ λf s₃ h₃=>?_
  cases f with
  | next=>exact aq (.inl ⟨rfl,h₃⟩)
  | cont=>exact aq (.inl ⟨rfl,h₃⟩)
  | brk=>exact aq h₃
  | ret v=>exact aq h₃
end
end Mine
namespace Mine
set_option maxHeartbeats 0
open PySem PySem.W PyProof.Rows PySem.Calls
theorem dM {α:Type} {M:Model} {A:Around} {t:Sem α} {Q Q':α->Ad->Prop} {E E':Ae->Ad->Prop} {s:Ad} (h:AF M A t Q E s) (hQ:∀ a s,Q a s->Q' a s) (hE:∀ e s,E e s->E' e s):av M A t Q' E' s:=.of (BC h hQ hE)
theorem aky {id:String} {args:Args} (h:iE.contains id=false):okc (.builtin id args)=true:=by show (!iE.contains id)=true;rw [h];rfl
theorem acj {α:Type} {M:Model} {A:Around} {E:Ae->Ad->Prop} {s:Ad} {c:Prop} [Decidable c] {a b:Sem α} {Q:α->Ad->Prop} (h1:AF M A a Q E s) (h2:AF M A b Q E s):AF M A (if c then a else b) Q E s:=by
 by_cases q:c
 ·rw [if_pos q];exact h1
 ·rw [if_neg q];exact h2
section
variable {prog:Program} {w:World} {A:Around} {E:Ae->Ad->Prop} {s:Ad} {env:Env} {R:Result->Ad->Prop}
theorem kD {a:Addr} {args:Args} {o:Obj} {fd:Ap} {body:List Stmt} (hroom:A.depth <GX) (ho:s.heap.get? a=some o)
 (hd':o.data=.func fd) (hco:fd.scope.isCoroutine=false) (hgen:fd.scope.isGenerator=false) (hbody:fd.body=.stmts body) (hcd:s.heap.CodeRec fd.code fd.qualname)
 (h:AF (At prog w) A.in1 (bindArgs fd args) (λbinds s₁=>
  AF (At prog w) A.in1 (GY fd.scope fd.globals fd.closure binds (fd.qualname++".<locals>.") (some a) fd.code none fd.builtins)
   (λenv s₂=>s₂.heap.NoLimit∧bf (At prog w) A (.func body env) R s₂) (λe s'=>R (.error e) s') s₁) (λe s'=>R (.error e) s') s):
 bf (At prog w) A (.call (.ref a) args) R s:=by
 show[cy ?_ rfl,e43 hcd λc oc vs tq hc hoc hdc hq=>?_]
 rw [hc] at h
 refine am (.of (CF ho ?_))
 cases o with | mk cls di data sl=>?_
 cases show data=.func fd from hd'
 show av _ _ (callFunction a fd args) _ _ _
 delta callFunction
 rw [hc]
 show[.of (Ac (m:=field (.ref c) 1) (Ez hoc hdc hq (Ac (An ?_)))),Ac (BC h (λbinds s₁ h₁=>Ac (BC h₁ (λenv s₂ h₂=>Ac (wpAny_enterFrame h₂.1 hroom ?_)) λO O h'=>h')) λO O h'=>h')]
 dsimp only
 rw [hgen,hco,hbody]
 exact An (Ah rfl h₂.2)
set_option backward.match.sparseCases true in
theorem zO {body} (h:av (At prog w) (A.deeper env) (Cw body env) (λf s'=>R (.ok (.ret (match f with | .ret v=>v | _=>.none))) s')
 (λe s'=>AF (At prog w) (A.deeper env) (Hk env e) (λO s''=>R (.error e) s'') (λe' s''=>R (.error e') s'') s') s):
 bf (At prog w) A (.func body env) R s:=by
 refine cy ?_ rfl
 show av _ (A.deeper env) (do point;match ← (Cw body env).onRaise (Hk env) with | .ret v=>ret v | _=>ret .none) _ _ s
 refine am (.of (IU (am (sH (ai h (λf s' h'=>?_) λe s' h'=>?_)))))
 ·cases f <;> exact aq h'
 ·exact .of h'
theorem pK {elt target iter ifs rest scope pos it dT} (h0:bf (At prog w) A (.compLoop (.ListComp elt (⟨target,iter,ifs,0⟩::rest) scope pos) 0 it dT env) R s)
 (h:AF (At prog w) A (II it) (λit' s'=>bf (At prog w) A (.compLoop (.ListComp elt (⟨target,iter,ifs,0⟩::rest) scope pos) 0 it' dT env) R s')
  (CL (At prog w) A env λx s'=>R (.error x) s') s):
 bf (At prog w) A (.compStart (.ListComp elt (⟨target,iter,ifs,0⟩::rest) scope pos) 0 it dT env) R s:=by
 refine cy (.of ?_) rfl
 show AF _ _ ((compStart (.ListComp elt (⟨target,iter,ifs,0⟩::rest) scope pos) 0 it dT env).onRaise (λx=>do DZ x env;DR theWindowsPlace)) _ _ s
 show[wpAny_notedAt]
 unfold compStart
 show AF _ _ (ask>>=_) _ _ s
 show(Ac (wpAny_askSetting ?_),acj (Ac (An (An (Ah rfl h0)))),Ac (C7 (Ac (FG (Ac (BC h (λit' s' h'=>An (Ah rfl h')) λO O x=>x))))))
theorem rG {elt target iter:Expr} {ifs:List Expr} {scope:Scope} {pos:Pos} {it dT:Ae} (I:Nat->Ad->Prop)
 (turn:∀ n s,I n s->av (At prog w) A (pyNext it) (λr s₁=>match r with
  | none=>R (.ok .next) s₁
  | some v=>av (At prog w) A (Dd target it v) (λO s₁=>av (At prog w) A (assign target env v) (λO s₂=>
   av (At prog w) A (forIn ifs true λc r=>if r=true then do let ok ← Bj c env (eval c env);pure (De ok) else pure (De r)) (λok s₃=>
    if ok=true then av (At prog w) A (eval elt env) (λx s₄=>
     av (At prog w) A (call (.builtin "list.append") [dT,x]) (λO s₅=>∃ m,m <n∧I m s₅) (CL (At prog w) A env λe s'=>R (.error e) s') s₄) (CL (At prog w) A env λe s'=>R (.error e) s') s₃
    else ∃ m,m <n∧I m s₃) (CL (At prog w) A env λe s'=>R (.error e) s') s₂) (CL (At prog w) A env λe s'=>R (.error e) s') s₁) (CL (At prog w) A env λe s'=>R (.error e) s') s₁) (CL (At prog w) A env λe s'=>R (.error e) s') s)
 (n:Nat) (h:I n s):
 bf (At prog w) A (.compLoop (.ListComp elt [⟨target,iter,ifs,0⟩] scope pos) 0 it dT env) R s:=by
 refine mT rfl rfl I (λn s hI=>?_) n h
 show av _ A ((compTurn (.ListComp elt [⟨target,iter,ifs,0⟩] scope pos) 0 it dT env).onRaise (λx=>do DZ x env;DS x)) _ _ s
 show[o8]
 rw [compTurn_list]
 refine bM (aw (turn n s hI) λr s₁ h₁=>?_)
 cases r with
 | none=>exact aq h₁
 | some v=>
  refine aw h₁ λO s₁' h₁'=>aw h₁' λO s₂ h₂=>aw h₂ λok s₃ h₃=>?_
  cases ok with
  | false=>exact aq (.inl ⟨rfl,h₃⟩)
  | true=>exact am (aw h₃ λx s₄ h₄=>aw h₄ λO s₅ h₅=>aq (aq (.inl ⟨rfl,h₅⟩)))
theorem ve {c:Expr} {Q:Bool->Ad->Prop} (h:av (At prog w) A (Bj c env (eval c env)) Q E s):
 av (At prog w) A (forIn [c] true λc r=>if r=true then do let ok ← Bj c env (eval c env);pure (De ok) else pure (De r)) Q E s:=by
 simp only [GD,List.forIn_nil,if_true]
 exact am (aw h λb s' hb=>aq (aq hb))
noncomputable def ack (M:Model) (A:Around) (E:Ae->Ad->Prop) (use:Option (Ae->Sem Unit)) (Q:Ae->Ad->Prop) (dT:Ae) (C:Addr) (r:Result) (s':Ad):Prop:=
 match r,use with
 | .ok _,none=>∃ m,s'.heap.Ns C m∧∀ h',BS C s'.heap h'->Q dT { s' with heap:=h' }
 | .ok _,some u=>av M A (u dT) (λO s''=>∃ m,s''.heap.Ns C m∧∀ h',BS C s''.heap h'->Q .none { s'' with heap:=h' }) E s'
 | .error x,_=>∃ m,s'.heap.Ns C m∧∀ h',BS C s'.heap h'->∀ cenv:Env,cenv.locals=C->AF M A (passOn "comprehension.variables-let-go" x cenv:Sem Ae) (λO O=>False) E { s' with heap:=h' }
theorem g7 {M:Model} {e:Expr} {scope:Scope} {pos:Pos} {newAcc first:Sem Ae} {g:FI} {gs:List FI} {cl:List (Str × Addr)} {use:Option (Ae->Sem Unit)}
 {Q:Ae->Ad->Prop}
 (hcl:clausesOf e=g::gs) (hs:∀ x,CQ g.iter env x=pure x) (hclos:closureFor scope env=pure cl)
 (hkind:scope.kind=.function) (hnames:∀ x∈scope.names,x.2=.local->scope.names.lookup x.1=some .local)
 (h:av M A first (λx s₁=>av M A (II x) (λit s₂=>av M A newAcc (λdT s₃=>
  av M A (GY scope env.globals cl [] env.qual none .none (some env)) (λcenv s₄=>
   bf M A (.compStart e 0 it dT { cenv with scope:=Es scope env }) (ack M A E use Q dT cenv.locals) s₄) E s₃) E s₂) E s₁) E s):
 av M A (comprehension e scope env pos newAcc false first use) Q E s:=by
 unfold comprehension
 rw [hclos,hcl]
 refine aw h λx s₁ h₁=>bM (am (.of (AA (hs x) (aw (aH h₁) λit s₂ h₂=>?_))))
 have std:∀ {α:Type} {c:Prop} [Decidable c] {pos:Pos} {k:PUnit->Sem α} {Q:α->Ad->Prop},av M A (k ()) Q E s₂->av M A (if c then (DR pos>>=k) else k ()) Q E s₂:=by
  intro α c _ pos k Q h
  exact ace (bM h) h
 refine std (aw h₂ λdT s₃ h₃=>am (aq (aw h₃ λcenv s₄ h₄=>?_)))
 dsimp only
 have hv:∀ x∈(scope.names.filter λx=>(x.2==.local||x.2==.cell)&&x.1 != (".0":Str)).reverse,x.2=.local->
  Env.kindOf { cenv with scope:=Es scope env } x.1=some .local:=λx hx hl=>GZ (hnames x (List.mem_filter.mp (List.mem_reverse.mp hx)).1 hl)
 have hv':∀ x∈(scope.names.filter λx=>(x.2==.local||x.2==.cell)&&x.1 != (".0":Str)).reverse.drop 1++(scope.names.filter λx=>(x.2==.local||x.2==.cell)&&x.1 != (".0":Str)).reverse.take 1,
  x.2=.local->Env.kindOf { cenv with scope:=Es scope env } x.1=some .local:=λx hx hl=>
  (List.mem_append.mp hx).elim (λh1=>hv x (G0 h1) hl) λh1=>hv x (Dq h1) hl
 refine aH (am (sI (aH (ajg (h:=none) (jE h₄ λr s' hr=>?_) nofun))))
 cases r with
 | ok f=>
  cases use with
  | none=>
   show(an hr λm hn hr=>?_,am (aH (.of (FS (cenv:={ cenv with scope:=Es scope env }) hkind _ s' m hv hn λh' m' O hs'=>aq (hr h' hs')))))
  | some u=>
   show(xw (aw (aH hr) λO s'' hr'=>?_),an hr' λm hn hr'=>?_,am (.of (FS (cenv:={ cenv with scope:=Es scope env }) hkind _ s'' m hv' hn λh' m' O hs'=>aq (hr' h' hs'))))
 | error x=>
  have hr':∃ m,s'.heap.Ns cenv.locals m∧∀ h',BS cenv.locals s'.heap h'->∀ cenv':Env,cenv'.locals=cenv.locals->AF M A (passOn "comprehension.variables-let-go" x cenv':Sem Ae) (λO O=>False) E { s' with heap:=h' }:=by cases use <;> exact hr
  show(an hr' λm hn hr=>?_,am (aH (.of (FS (cenv:={ cenv with scope:=Es scope env }) hkind _ s' m hv hn λh' m' O hs'=>.of (BC (hr h' hs' _ rfl) (λO O f=>f.elim) λO O y=>y)))))
end
theorem lN {prog:Program} {w:World} {A:Around} {R:Result->Ad->Prop} {s:Ad} {id:String} {args:Args} {b:BW} (hb:E9 table id=some b) (ho:iE.contains id=false)
 (h:av (At prog w) (A.under (.builtin id args)) (b args) (Fn (At prog w) A R) (λe s'=>R (.error e) s') s):bf (At prog w) A (.builtin id args) R s:=by
 refine cy ?_ (aky ho)
 show av _ _ (match E9 table id with | some b=>b args | none=>unsupported ((withoutEnding? id "#data").getD id)) _ _ s
 rw [hb];exact h
theorem cW {prog:Program} {w:World} {A:Around} {R:Result->Ad->Prop} {s:Ad} {id:String} {args:Args} {b:BW} (hq:(Code.builtin id args).quiet=true) (hb:E9 table id=some b) (ho:iE.contains id=false)
 (h:AF (At prog w) A.in1 (Dx id args) (λO s₁=>av (At prog w) (A.under (.builtin id args)) (b args) (Fn (At prog w) A R) (λe s'=>R (.error e) s') s₁) (λe s'=>R (.error e) s') s):bf (At prog w) A (.call (.builtin id) args) R s:=by
 refine cy ?_ rfl
 show av _ A.in1 (do Dx id args;again (.builtin id args)) _ _ s
 exact am (.of (BC h (λO s₁ h₁=>aq (Ah hq (lN hb ho h₁))) λO O x=>x))
section
variable {prog:Program} {w:World} {A:Around} {C:Addr} {R:Result->Ad->Prop} {h:Heap} {g:Array E2} {d:IT} {t:Nat} {os:Fx}
theorem sJ {rest:List Ae} {init:Ae} {nid:String} {oc:Ae} {od:Option Addr} {cd:Hl} {sl:Array (Option Ae)} {h':Heap} {x:Addr} {ox:Obj} (hC:h.get? C=some ⟨oc,od,.cls cd,sl⟩) (hmr:cd.mro.isEmpty=false) (made:Dp (At prog w) h (Bind.madeBy (.ref C)) (some nid))
 (call:Dp (At prog w) h (IJ (.ref C) "__call__") (some (.builtin "type.__call__"))) (typ:Dp (At prog w) h (HO (.ref C) (.type "type")) true) (self:Dp (At prog w) h (Di (.ref C) (.ref C)) true)
 (hi:Dp (At prog w) h (B3 (.ref C) "__init__") (some init)) (hb:∀ self,Dp (At prog w) h (bindSpecial init self) (init,[self]))
 (new:∀ {A:Around} {R:Result->Ad->Prop},R (.ok (.ret (.ref x))) ⟨h',g,d,t,os⟩->Hf (At prog w) A (.call (.builtin nid) ⟨.ref C::rest,[]⟩) R ⟨h,g,d,t,os⟩) (k:∀ b o,h.get? b=some o->h'.get? b=some o) (hx:h'.get? x=some ox) (hxc:ox.cls=.ref C)
 (hq:bf (At prog w) (A.under (.builtin "type.__call__" ⟨.ref C::rest,[]⟩)) (.call init ⟨.ref x::rest,[]⟩) (InitBack x R) ⟨h',g,d,t,os⟩):bf (At prog w) A (.call (.ref C) ⟨rest,[]⟩) R ⟨h,g,d,t,os⟩:=by
 have t1:Dp (At prog w) h' (FJ (.ref x)) (.ref C):=(FU hx).andThen (by rw [hxc];exact .now)
 refine cy (.of (nd_load hC ?_)) rfl
 show AF _ _ (Ik (.ref C) _) _ _ _
 unfold Ik
 refine Ac (call.at ?_)
 dsimp only
 rw [tc_bind]
 show[Ac (An (Ac (An ?_))),An (a:=Fin.again (.call (.builtin "type.__call__") ⟨.ref C::rest,[]⟩)) (Ah rfl ?_),cW (Fa _ (by decide+kernel)) entry_typeCall (by decide+kernel) (check_slot tc_kind tc_split typ (tc_args _ _ _) ?_)]
 unfold BW.«type.__call__»
 have hm:Dp (At prog w) h (mroOf (.ref C)) cd.mro:=((FU (part:=none) hC).andThen .now).andThen .now
 refine am (t:=mroOf (.ref C)) (.of (hm.here ?_))
 rw [hmr,if_neg AK]
 show[am (.of (made.here (am (aq (am (aH (.of (wpAny_call (new ?_))))))))),am (t:=HO (.ref x) (.ref C)) (.of ((t1.andThen (f:=λt=>Di t (.ref C)) (self.keeps k)).here ?_)),am (aH (am (t:=IJ (.ref x) "__init__") (.of ((t1.andThen (f:=λt=>B3 t "__init__") (hi.keeps k)).here ?_)))),aH (am (.of (((hb (.ref x)).keeps k).here ?_))),am (kB (jE hq λr s' z=>?_))]
 cases r with
 | error e=>exact z
 | ok f=>
  cases f with
  | ret v=>exact bS z λe y=>by subst e;exact aq (aq y)
  | _=>exact z.elim
theorem zP {rest:List Ae} {init:Ae} (Y:Makes (At prog w) h C) (hi:Dp (At prog w) h (B3 (.ref C) "__init__") (some init))
 (hb:∀ self,Dp (At prog w) h (bindSpecial init self) (init,[self])) (hne:(some init != some (Value.builtin "object.__init__"))=true)
 (hq:bf (At prog w) (A.under (.builtin "type.__call__" ⟨.ref C::rest,[]⟩)) (.call init ⟨.ref (h.objs.size+1)::rest,[]⟩) (InitBack (h.objs.size+1) R) ⟨(h.push emptyDict).push (Il C h.objs.size),g,d,t,os⟩):
 bf (At prog w) A (.call (.ref C) ⟨rest,[]⟩) R ⟨h,g,d,t,os⟩:=
 e43 Y.obj λO O O O hC O O e4=>sJ hC e4 Y.made Y.call Y.typ Y.self hi hb (new_K Y hi (.inl hne)) (λb o e=>Aj _ (Aj _ e)) (by heap_get) rfl hq
end
end Mine
namespace Mine
open PySem PySem.W PyProof.Rows
inductive aj where
 | inst (C d:Addr) (fs:List (Str × V))
 | dS (es:List (Str × V))
 | dI (es:List (Int × V))
 | lst (l:List V)
 | barr (b:List UInt8)
noncomputable abbrev ah:=List (Addr × aj)
noncomputable def aM:Addr × aj->List Addr
 | (a,.inst _ d _)=>[a,d]
 | (a,_)=>[a]
noncomputable def foot (L:ah):List Addr:=L.flatMap aM
theorem ar (L M:ah):foot (L++M)=foot L++foot M:=by unfold foot;rw [Bx]
theorem cj {L:ah} {p:Addr × aj} {a:Addr} (hp:p∈L) (ha:a∈aM p):a∈foot L:=List.mem_flatMap.mpr ⟨p,hp,ha⟩
inductive ey (P:Params) (h:Heap) (F:List Addr):List (Str × V)->List Bi->Prop
 | nil:ey P h F [] []
 | cons {x:Str} {v:V} {t:Tok} {rv:Ae} {r:List (Str × V)} {es:List Bi} (hv:VR h F v rv) (hr:ey P h F r es):ey P h F ((x,v)::r) (⟨CZ P x,.str x t,rv⟩::es)
inductive bV {K:Type} (h:Heap) (F:List Addr):List (K × V)->List (K × Ae)->Prop
 | nil:bV h F [] []
 | cons {x:K} {v:V} {rv:Ae} {r:List (K × V)} {es:List (K × Ae)} (hv:VR h F v rv) (hr:bV h F r es):bV h F ((x,v)::r) ((x,rv)::es)
noncomputable def Own (w:World) (h:Heap) (F:List Addr):Addr × aj->Prop
 | (a,.inst C d fs)=>h.get? a=some (Il C d)∧∃ es n,h.get? d=some (Ek es n)∧ey w.params h F fs es
 | (a,.dS fs)=>∃ kvs,h.DictOf (strKind pw w) a kvs∧bV h F fs kvs
 | (a,.dI fs)=>∃ kvs,h.DictOf (Fz pw w) a kvs∧bV h F fs kvs
 | (a,.lst l)=>∃ vs n,h.get? a=some ⟨.type "list",.none,.seq ⟨vs⟩ n,#[]⟩∧bT h F l vs
 | (a,.barr b)=>h.get? a=some { cls:=.type "bytearray",data:=.bytearray ⟨b⟩ 0 }
theorem ey.mono {P:Params} {h h':Heap} {F F':List Addr} (E:bx F F' h h') {fs:List (Str × V)} {es:List Bi} (x:ey P h F fs es):ey P h' F' fs es:=by
 induction x with
 | nil=>exact .nil
 | cons hv _ ih=>exact .cons (hv.mono E) ih
theorem bV.mono {K:Type} {h h':Heap} {F F':List Addr} (E:bx F F' h h') {fs:List (K × V)} {es:List (K × Ae)} (x:bV h F fs es):bV h' F' fs es:=by
 induction x with
 | nil=>exact .nil
 | cons hv _ ih=>exact .cons (hv.mono E) ih
theorem sK {w:World} {K:Type} [DecidableEq K] {knd:KeyKind pw w K} {h h':Heap} {a:Addr} {kvs:List (K × Ae)} (x:h.DictOf knd a kvs) (k:∀ o,h.get? a=some o->h'.get? a=some o):h'.DictOf knd a kvs:=
 e31 x λo es ep ho r=>⟨o,es,ep,k o ho,r⟩
theorem Own.mono {w:World} {h h':Heap} {F F':List Addr} (E:bx F F' h h') {p:Addr × aj} (k:∀ a∈aM p,∀ o,h.get? a=some o->h'.get? a=some o) (x:Own w h F p):Own w h' F' p:=by
 obtain ⟨a,c⟩:=p
 cases c with
 | inst C d fs=>
  obtain ⟨h1,es,n,h2,h3⟩:=x
  exact ⟨k a (.head _) _ h1,es,n,k d (.tail _ (.head _)) _ h2,h3.mono E⟩
 | dS fs=>refine an x λkvs h2 h3=>?_;exact ⟨kvs,sK h2 (k a (.head _)),h3.mono E⟩
 | dI fs=>refine an x λkvs h2 h3=>?_;exact ⟨kvs,sK h2 (k a (.head _)),h3.mono E⟩
 | lst l=>refine oq x λvs n h2 h3=>?_;exact ⟨vs,n,k a (.head _) _ h2,h3.mono E⟩
 | barr b=>exact k a (.head _) _ x
theorem pN {w:World} {h:Heap} {F:List Addr} {p:Addr × aj} (x:Own w h F p) {a:Addr} (ha:a∈aM p):∃ o,h.get? a=some o∧∀ vs,o.data≠.fields vs:=by
 obtain ⟨b,c⟩:=p
 cases c with
 | inst C d fs=>
  obtain ⟨h1,es,n,h2,h3⟩:=x
  simp only [aM,DN,B5,or_false] at ha
  rcases ha with rfl | rfl
  ·exact ⟨_,h1,λvs q=>by cases q⟩
  ·exact ⟨_,h2,λvs q=>by cases q⟩
 | dS fs=>
  show[an x]
  clear x
  intro kvs q1' _
  refine jC q1' λo es ep h2 O h3 O=>?_
  simp only [aM,DN,B5,or_false] at ha
  subst ha;exact ⟨_,h2,λvs q=>by rw [h3] at q;cases q⟩
 | dI fs=>
  show[an x]
  clear x
  intro kvs q1' _
  refine jC q1' λo es ep h2 O h3 O=>?_
  simp only [aM,DN,B5,or_false] at ha
  subst ha;exact ⟨_,h2,λvs q=>by rw [h3] at q;cases q⟩
 | lst l=>
  refine oq x λes n h2 h3=>?_
  simp only [aM,DN,B5,or_false] at ha
  subst ha;exact ⟨_,h2,λvs q=>by cases q⟩
 | barr b=>
  simp only [aM,DN,B5,or_false] at ha
  subst ha;exact ⟨_,x,λvs q=>by cases q⟩
structure Cx where
 w:World
 B:Heap
 Fr:List Addr
 R:ah
structure St (c:Cx) (L:ah) (s:Ad):Prop where
 base:∀ b o,c.B.get? b=some o->s.heap.get? b=some o
 stat:mS c.w c.B
 own:∀ p∈c.R++L,Own c.w s.heap (foot (c.R++L)) p
 nd:(c.Fr++foot (c.R++L)).Nodup
 lo:∀ a∈c.Fr++foot (c.R++L),c.B.get? a=none∧2≤a
 gens:s.gens=#[]
 fr:∀ a∈c.Fr,∃ o,s.heap.get? a=some o∧∀ vs,o.data≠.fields vs
noncomputable abbrev mO (c:Cx) (L:ah) (s:Ad) (v:V) (rv:Ae):Prop:=VR s.heap (foot (c.R++L)) v rv
noncomputable abbrev tK (c:Cx) (L:ah) (s:Ad) (v:List V) (rv:List Ae):Prop:=bT s.heap (foot (c.R++L)) v rv
theorem VR.handed {h:Heap} {F:List Addr} {v:V} {rv:Ae} (x:VR h F v rv):handedIn rv=true:=by cases x <;> rfl
noncomputable def K0 (P:Params):Frag:=KS P++tB P
theorem xE {K:Frag} {a:Addr} {o:Obj} (e:K.lookup a=some o):(a,o)∈K:=by
 induction K with
 | nil=>cases e
 | cons p K ih=>
  obtain ⟨b,ob⟩:=p
  rw [A7] at e
  by_cases q:(a==b)=true
  ·rw [q] at e
   cases e
   rw [eq_of_beq q];exact .head _
  ·rw [Dy] at q
   rw [q] at e
   exact .tail _ (ih e)
theorem aof {w:World} {B:Heap} (x:mS w B):(K0 w.params).In B:=λa o e=>(x.ks.app x.cs) _ (xE e)
theorem St.K {c:Cx} {L:ah} {s:Ad} (x:St c L s):(K0 c.w.params).In s.heap:=(aof x.stat).keeps x.base
theorem St.big {c:Cx} {L:ah} {s:Ad} (S:St c L s):1694≤s.heap.objs.size:=by
 have h:(K0 c.w.params).lookup 1693=some ⟨.type "function",none,.func sF,#[]⟩:=by kernel_rfl
 exact AZ (S.K _ _ h)
noncomputable def dX (h h':Heap):Prop:=∀ b,h'.get? b=none->h.get? b=none
theorem dX.refl (h:Heap):dX h h:=λO e=>e
theorem dX.trans {h h' h'':Heap} (a:dX h h') (b:dX h' h''):dX h h'':=λx e=>a x (b x e)
theorem dX.of {h h':Heap} (k:∀ b o,h.get? b=some o->∃ o',h'.get? b=some o'):dX h h':=λb e=>by
 cases q:h.get? b with
 | none=>rfl
 | some x=>refine aE (k b x q) λo' e'=>?_;rw [e] at e';cases e'
noncomputable def Keeps (G:List Addr) (h h':Heap):Prop:=∀ b o,h.get? b=some o->b∉G->h'.get? b=some o
theorem Keeps.refl (G:List Addr) (h:Heap):Keeps G h h:=λO O e O=>e
theorem Keeps.all {G:List Addr} {h h':Heap} (k:∀ b o,h.get? b=some o->h'.get? b=some o):Keeps G h h':=λb o e O=>k b o e
structure bD (G G':List Addr) (s s':Ad):Prop where
 keep:Keeps G s.heap s'.heap
 live:dX s.heap s'.heap
 grow:∀ b∈G',b∈G∨s.heap.get? b=none
 os:s'.os=s.os
theorem bD.refl (G:List Addr) (s:Ad):bD G G s s:=⟨Keeps.refl _ _,.refl _,λO hb=>.inl hb,rfl⟩
theorem bD.trans {G G' G'':List Addr} {s s' s'':Ad} (a:bD G G' s s') (b:bD G' G'' s' s''):bD G G'' s s'':=
 ⟨λx o e hx=>b.keep x o (a.keep x o e hx) λhm=>(a.grow x hm).elim hx λq=>(by rw [e] at q;cases q),
  a.live.trans b.live,λx hx=>(b.grow x hx).elim (a.grow x) λq=>.inr (a.live x q),b.os.trans a.os⟩
theorem bD.toks (G:List Addr) (s:Ad) (t:Nat):bD G G s { s with toks:=t }:=⟨Keeps.refl _ _,.refl _,λO hb=>.inl hb,rfl⟩
theorem bD.all {G:List Addr} {s:Ad} {h':Heap} {t:Nat} (k:∀ b o,s.heap.get? b=some o->h'.get? b=some o):bD G G s { s with heap:=h',toks:=t }:=
 ⟨.all k,.of λb o e=>⟨o,k b o e⟩,λO hb=>.inl hb,rfl⟩
theorem bD.less {G G' G'':List Addr} {s s':Ad} (a:bD G G' s s') (h:∀ b∈G'',b∈G'):bD G G'' s s':=⟨a.keep,a.live,λb hb=>a.grow b (h b hb),a.os⟩
theorem bD.more {G G₀ G':List Addr} {s s':Ad} (a:bD G G' s s') (h:∀ b∈G,b∈G₀):bD G₀ G' s s':=⟨λb o e n=>a.keep b o e λm=>n (h b m),a.live,λb hb=>(a.grow b hb).imp (h b) id,a.os⟩
theorem bD.extV {R G G':List Addr} {s s':Ad} (e:bD G G' s s'):bx (R++G) (R++G') s.heap s'.heap:=
 ⟨λb o x O hb=>e.keep b o x λm=>hb (Aa _ m),λb hb=>(List.mem_append.mp hb).elim (λh=>.inl (Ag _ h)) λh=>(e.grow b h).imp (Aa _) id⟩
theorem bD.ext {c:Cx} {L L':ah} {s s':Ad} (e:bD (foot L) (foot L') s s'):bx (foot (c.R++L)) (foot (c.R++L')) s.heap s'.heap:=by
 rw [ar,ar];exact e.extV
theorem St.toks {c:Cx} {L:ah} {s:Ad} (S:St c L s) (t:Nat):St c L { s with toks:=t }:=⟨S.base,S.stat,S.own,S.nd,S.lo,S.gens,S.fr⟩
theorem dN {F:List Addr} {h h':Heap} (k:∀ b o,h.get? b=some o->h'.get? b=some o):bx F F h h':=⟨λb o e O O=>k b o e,λO hb=>.inl hb⟩
theorem St.all {c:Cx} {L:ah} {s:Ad} (S:St c L s) {h':Heap} {t:Nat} (k:∀ b o,s.heap.get? b=some o->h'.get? b=some o):St c L { s with heap:=h',toks:=t }:=
 ⟨λb o e=>k b o (S.base b o e),S.stat,λp hp=>(S.own p hp).mono (dN k) λa O o e=>k a o e,S.nd,S.lo,S.gens,λa ha=>let ⟨o,e,d⟩:=S.fr a ha;⟨o,k a o e,d⟩⟩
theorem St.out {c:Cx} {L:ah} {s:Ad} (S:St c L s) {a:Addr} (h:a∈c.Fr):a∉foot L:=λhm=>
 (List.nodup_append.mp S.nd).2.2 a h a (by rw [ar];exact Aa _ hm) rfl
theorem St.outR {c:Cx} {L:ah} {s:Ad} (S:St c L s) {a:Addr} (h:a∈foot c.R):a∉foot L:=λhm=>by
 have:=(List.nodup_append.mp S.nd).2.1
 rw [ar] at this
 exact (List.nodup_append.mp this).2.2 a h a hm rfl
theorem St.heap_of {c:Cx} {L:ah} {s:Ad} (S:St c L s) {a:Addr} (h:a∈foot (c.R++L)):∃ o,s.heap.get? a=some o:=by
 show(an (List.mem_flatMap.mp h) λp hp ha=>?_,an (pN (S.own p hp) ha) λo e O=>?_,⟨o,e⟩)
structure jF (n:Nat) (A:Around):Prop where
 handled:A.handled=none
 depth:A.depth+8 * n <GX
 units:A.units+60 * n <cLine
theorem jF.le {n m:Nat} {A:Around} (b:jF n A) (h:m≤n):jF m A:=⟨b.handled,by have:=b.depth;lia,by have:=b.units;lia⟩
structure aA (c:Cx) (h:Heap) (F:List Addr) (env:Env) (m:List (Str × V)):Prop where
 kind:env.scope.kind=.function
 glob:env.globals=BP
 blt:env.builtins=B2
 ns:∃ mm,h.Ns env.locals mm∧∀ x v,m.lookup x=some v->env.kindOf x=some .local->∃ rv,mm x=some rv∧VR h F v rv
 cell:∀ x v,m.lookup x=some v->(env.kindOf x=some .cell∨env.kindOf x=some .free)->∃ a rv,env.cells.lookup x=some a∧h.IsCell a (some rv)∧VR h F v rv
 cells:∀ x a,env.cells.lookup x=some a->a∈c.Fr∧a≠env.locals∧∃ v,h.IsCell a v
 inj:∀ x y a,env.cells.lookup x=some a->env.cells.lookup y=some a->x=y
 loc:env.locals∈c.Fr
theorem aA.evo {c:Cx} {L L':ah} {s s':Ad} {env:Env} {m:List (Str × V)} (S:St c L s) (x:aA c s.heap (foot (c.R++L)) env m) (e:bD (foot L) (foot L') s s'):aA c s'.heap (foot (c.R++L')) env m:=by
 show[an x.ns λmm hn hv=>?_,⟨x.kind,x.glob,x.blt,⟨mm,?_,λy v h1 h2=>?_⟩,λy v h1 h2=>?_,λy a h1=>?_,x.inj,x.loc⟩]
 ·show(e31 hn λo es ep ho r=>?_,⟨o,es,ep,e.keep _ _ ho (S.out x.loc),r⟩)
 ·show(an (hv y v h1 h2) λrv a b=>?_,⟨rv,a,b.mono e.ext⟩)
 ·show(fg (x.cell y v h1 h2) λa rv ha q1' b=>?_,an q1' λo ho hd=>?_,⟨a,rv,ha,⟨o,e.keep _ _ ho (S.out (x.cells y a ha).1),hd⟩,b.mono e.ext⟩)
 ·obtain ⟨ha,b,v,o,ho,hd⟩:=x.cells y a h1
  exact ⟨ha,b,v,o,e.keep _ _ ho (S.out ha),hd⟩
structure FrE (c:Cx) (h:Heap) (e:Env):Prop where
 kind:e.scope.kind≠.module
 at_:∃ f o es ep,e.frame=some f∧f∈c.Fr∧c.B.get? f=none∧h.get? f=some o∧o.data=.dict es ep
noncomputable def bF (c:Cx) (A:Around) (h:Heap):Prop:=∃ l,A.frames=some l∧∀ e∈l,FrE c h e
theorem FrE.of {c:Cx} {h h':Heap} {e:Env} (x:FrE c h e) (k:∀ b o es ep,b∈c.Fr->h.get? b=some o->o.data=.dict es ep->∃ o' es' ep',h'.get? b=some o'∧o'.data=.dict es' ep'):FrE c h' e:=by
 show(e44 x.at_ λf o es ep a b d g i=>?_,e31 (k f o es ep b g i) λo' es' ep' p q=>?_,⟨x.kind,f,o',es',ep',a,b,d,p,q⟩)
theorem bF.of {c:Cx} {h h':Heap} {A:Around} (x:bF c A h) (k:∀ b o es ep,b∈c.Fr->h.get? b=some o->o.data=.dict es ep->∃ o' es' ep',h'.get? b=some o'∧o'.data=.dict es' ep'):bF c A h':=by
 show(an x λl a b=>?_,⟨l,a,λe he=>(b e he).of k⟩)
theorem bF.evo {c:Cx} {A:Around} {L L':ah} {s s':Ad} (S:St c L s) (x:bF c A s.heap) (e:bD (foot L) (foot L') s s'):bF c A s'.heap:=
 x.of λb o es ep hb ho hd=>⟨o,es,ep,e.keep b o ho (S.out hb),hd⟩
structure sL (h₀ h:Heap) (e:Ae) (C:Addr):Prop where
 at_:∃ a,e=.ref a∧h₀.get? a=none∧h.Traced h₀ a (.ref C)
theorem vf {h₀ h₁ h:Heap} {a:Addr} {c:Ae} (k:∀ b,h₁.get? b=none->h₀.get? b=none) (x:h.Traced h₁ a c):h.Traced h₀ a c:=by
 show(e55 x λoe vs T oT ts he hcls hd h1 hnT r=>?_,⟨oe,vs,T,oT,ts,he,hcls,hd,h1,k _ hnT,r⟩)
theorem sL.base {h₀ h₁ h:Heap} {e:Ae} {C:Addr} (k:∀ b,h₁.get? b=none->h₀.get? b=none) (x:sL h₁ h e C):sL h₀ h e C:=by
 show(ec x.at_ λa e1 e2 e3=>?_,⟨a,e1,k _ e2,vf k e3⟩)
structure kE (Fr G G':List Addr) (s s':Ad):Prop where
 keep:∀ b o,s.heap.get? b=some o->b∉G->∃ sl,s'.heap.get? b=some { o with slots:=sl }∧(b∉Fr->sl=o.slots)
 live:dX s.heap s'.heap
 grow:∀ b∈G',b∈G∨s.heap.get? b=none
 os:s'.os=s.os
theorem bD.thenX {Fr G G' G'':List Addr} {s s' s'':Ad} (a:bD G G' s s') (b:kE Fr G' G'' s' s''):kE Fr G G'' s s'':=
 ⟨λx o e hx=>b.keep x o (a.keep x o e hx) λhm=>(a.grow x hm).elim hx λq=>(by rw [e] at q;cases q),
  a.live.trans b.live,λx hx=>(b.grow x hx).elim (a.grow x) λq=>.inr (a.live x q),b.os.trans a.os⟩
theorem bD.toX {Fr G G':List Addr} {s s':Ad} (a:bD G G' s s'):kE Fr G G' s s':=
 ⟨λx o e hx=>⟨o.slots,a.keep x o e hx,λO=>rfl⟩,a.live,a.grow,a.os⟩
theorem kE.more {Fr G G₀ G':List Addr} {s s':Ad} (a:kE Fr G G' s s') (h:∀ b∈G,b∈G₀):kE Fr G₀ G' s s':=⟨λb o e n=>a.keep b o e λm=>n (h b m),a.live,λb hb=>(a.grow b hb).imp (h b) id,a.os⟩
noncomputable abbrev ad:=V->ah->Prop
noncomputable abbrev ac:=Addr->ah->Prop
noncomputable abbrev Loc:=List (Str × V)
section
variable (c:Cx)
inductive cD (L:ah) (s:Ad) (Q:ad) (rv:Ae) (s':Ad):Prop
 | mk (v:V) (L':ah) (q:Q v L') (S:St c L' s') (x:mO c L' s' v rv) (e:bD (foot L) (foot L') s s')
inductive bG (L:ah) (s:Ad) (X:ac) (e:Ae) (s':Ad):Prop
 | mk (C:Addr) (L':ah) (q:X C L') (S:St c L' s') (x:sL s.heap s'.heap e C) (e:kE c.Fr (foot L) (foot L') s s')
inductive tL (L:ah) (s:Ad) (Q:Bool->ah->Prop) (b:Bool) (s':Ad):Prop
 | mk (L':ah) (q:Q b L') (S:St c L' s') (e:bD (foot L) (foot L') s s')
end
section
variable {c:Cx} {L:ah} {Q:ad} {X:ac}
theorem cD.mono {s s':Ad} {rv:Ae} {Q':ad} (x:cD c L s Q rv s') (hq:∀ v L',Q v L'->Q' v L'):cD c L s Q' rv s':=let ⟨v,L',q,a,b,d⟩:=x;⟨v,L',hq _ _ q,a,b,d⟩
theorem bG.mono {s s':Ad} {rv:Ae} {Q':ac} (x:bG c L s X rv s') (hq:∀ v L',X v L'->Q' v L'):bG c L s Q' rv s':=let ⟨v,L',q,a,b,d⟩:=x;⟨v,L',hq _ _ q,a,b,d⟩
theorem tL.mono {s s':Ad} {t t':Bool} {Q Q':Bool->ah->Prop} (x:tL c L s Q t s') (hq:∀ L',Q t L'->Q' t' L'):tL c L s Q' t' s':=let ⟨L',q,a,d⟩:=x;⟨L',hq _ q,a,d⟩
theorem cD.after {L':ah} {s s':Ad} {rv:Ae} {s'':Ad} (e:bD (foot L) (foot L') s s') (x:cD c L' s' Q rv s''):cD c L s Q rv s'':=by
 obtain ⟨v,L2,a,b,d,f⟩:=x;exact ⟨v,L2,a,b,d,e.trans f⟩
theorem bG.after {L':ah} {s s':Ad} {rv:Ae} {s'':Ad} (e:bD (foot L) (foot L') s s') (x:bG c L' s' X rv s''):bG c L s X rv s'':=by
 obtain ⟨v,L2,a,b,d,f⟩:=x;exact ⟨v,L2,a,b,d.base e.live,e.thenX f⟩
theorem tL.after {Q:Bool->ah->Prop} {L':ah} {s s':Ad} {b:Bool} {s'':Ad} (e:bD (foot L) (foot L') s s') (x:tL c L' s' Q b s''):tL c L s Q b s'':=by
 obtain ⟨L2,a,b,d⟩:=x;exact ⟨L2,a,b,e.trans d⟩
theorem ay {s:Ad} {v:V} {rv:Ae} {t:Nat} (S:St c L s) (hq:Q v L) (hv:mO c L s v rv):cD c L s Q rv { s with toks:=t }:=
 ⟨v,L,hq,S.toks t,hv,bD.toks _ _ _⟩
theorem aN {s:Ad} {v:V} {rv:Ae} (S:St c L s) (hq:Q v L) (hv:mO c L s v rv):cD c L s Q rv s:=⟨v,L,hq,S,hv,bD.refl _ _⟩
theorem dC {s:Ad} {v:V} {rv:Ae} {h':Heap} {t:Nat} (S:St c L s) (hq:Q v L) (k:∀ b o,s.heap.get? b=some o->h'.get? b=some o) (hv:VR h' (foot (c.R++L)) v rv):cD c L s Q rv { s with heap:=h',toks:=t }:=
 ⟨v,L,hq,S.all k,hv,bD.all k⟩
theorem pO {Q:Bool->ah->Prop} {s:Ad} {b:Bool} (S:St c L s) (hq:Q b L):tL c L s Q b s:=⟨L,hq,S,bD.refl _ _⟩
end
end Mine
namespace Mine
open PySem PySem.W PyProof.Rows PySem.Calls
section
variable (c:Cx)
noncomputable def bv (n:Nat) (env:Env) (m:Loc) (t:Sem Ae) (L:ah) (Q:ad) (X:ac):Prop:=
 ∀ (A:Around) (s:Ad),jF n A->bF c A s.heap->St c L s->aA c s.heap (foot (c.R++L)) env m->av (At pw c.w) A t (cD c L s Q) (bG c L s X) s
noncomputable def lF (n:Nat) (env:Env) (m:Loc) (t:Sem Bool) (L:ah) (Q:Bool->ah->Prop) (X:ac):Prop:=
 ∀ (A:Around) (s:Ad),jF n A->bF c A s.heap->St c L s->aA c s.heap (foot (c.R++L)) env m->av (At pw c.w) A t (tL c L s Q) (bG c L s X) s
structure bj (n:Nat) (op:Ae->Ae->Sem Ae) (v1 v2:V) (L:ah) (Q:ad) (X:ac):Prop where
 go:∀ (A:Around) (s:Ad) (r1 r2:Ae),jF n A->bF c A s.heap->St c L s->mO c L s v1 r1->mO c L s v2 r2->AF (At pw c.w) A (op r1 r2) (cD c L s Q) (bG c L s X) s
structure OkU (n:Nat) (op:Ae->Sem Ae) (v:V) (L:ah) (Q:ad) (X:ac):Prop where
 go:∀ (A:Around) (s:Ad) (r:Ae),jF n A->bF c A s.heap->St c L s->mO c L s v r->AF (At pw c.w) A (op r) (cD c L s Q) (bG c L s X) s
structure OkT (n:Nat) (v:V) (L:ah) (Q:Bool->ah->Prop) (X:ac):Prop where
 go:∀ (A:Around) (s:Ad) (r:Ae),jF n A->bF c A s.heap->St c L s->mO c L s v r->AF (At pw c.w) A (FH r) (tL c L s Q) (bG c L s X) s
inductive aog (L:ah) (s:Ad) (Q:List V->ah->Prop) (rvs:List Ae) (s':Ad):Prop
 | mk (vs:List V) (L':ah) (q:Q vs L') (S:St c L' s') (x:tK c L' s' vs rvs) (e:bD (foot L) (foot L') s s')
noncomputable def cI (n:Nat) (env:Env) (m:Loc) (ts:List (Bool × Sem Ae)) (L:ah) (Q:List V->ah->Prop) (X:ac):Prop:=
 ∀ (A:Around) (s:Ad),jF n A->bF c A s.heap->St c L s->aA c s.heap (foot (c.R++L)) env m->av (At pw c.w) A (EW ts) (aog c L s Q) (bG c L s X) s
structure ae (n:Nat) (f:Ae) (vs:List V) (L:ah) (Q:ad) (X:ac):Prop where
 go:∀ (A:Around) (s:Ad) (rvs:List Ae),jF n A->bF c A s.heap->St c L s->tK c L s vs rvs->av (At pw c.w) A (CR f rvs) (cD c L s Q) (bG c L s X) s
end
section
variable {c:Cx} {n:Nat} {env:Env} {m:Loc} {L:ah} {Q:ad} {X:ac}
theorem bv.mono {t:Sem Ae} {Q':ad} {X':ac} (h:bv c n env m t L Q X) (hq:∀ v L',Q v L'->Q' v L') (hx:∀ C L',X C L'->X' C L'):bv c n env m t L Q' X':=
 λA s a b d e=>ai (h A s a b d e) (λO O z=>z.mono hq) λO O z=>z.mono hx
theorem ae.mono {f:Ae} {vs:List V} {Q':ad} {X':ac} {n':Nat} (h:ae c n f vs L Q X) (hq:∀ v L',Q v L'->Q' v L') (hx:∀ C L',X C L'->X' C L') (hn:n≤n'):ae c n' f vs L Q' X':=
 ⟨λA s r a b d e=>ai (h.go A s r (a.le hn) b d e) (λO O z=>z.mono hq) λO O z=>z.mono hx⟩
theorem ae.leaf {f:Ae} {vs:List V} (h:∀ (A:Around) (s:Ad) (rvs:List Ae),jF n A->bF c A s.heap->St c L s->tK c L s vs rvs->AF (At pw c.w) A (CR f rvs) (cD c L s Q) (bG c L s X) s):ae c n f vs L Q X:=⟨λA s rvs a b d e=>.of (h A s rvs a b d e)⟩
theorem ae.le {f:Ae} {vs:List V} {n':Nat} (h:ae c n f vs L Q X) (hn:n≤n'):ae c n' f vs L Q X:=h.mono (λO O x=>x) (λO O x=>x) hn
theorem akz {x:Str} {pos:Pos} {v:V} (hk:env.kindOf x=some .local) (hv:m.lookup x=some v) (h:Q v L) (hd:(x==("__debug__":Str))=false):bv c n env m (eval (.Name x pos) env) L Q X:=by
 intro A s _ _ S V
 show(an V.ns λmm hn hh=>?_,an (hh x v hv hk) λrv a b=>?_,.of (HP (G1 V.kind hk hn a (aN S h b)) hd))
theorem ak0 {x:Str} {pos:Pos} {v:V} (hk:env.kindOf x=some .cell) (hv:m.lookup x=some v) (h:Q v L) (hd:(x==("__debug__":Str))=false):bv c n env m (eval (.Name x pos) env) L Q X:=by
 intro A s _ _ S V
 show(fg (V.cell x v hv (.inl hk)) λa rv ha b d=>?_,.of (HP (wpAny_loadName_cell V.kind hk ha b (aN S h d)) hd))
theorem ak1 {x:Str} {pos:Pos} {v:V} (hk:env.kindOf x=some .free) (hv:m.lookup x=some v) (h:Q v L) (hd:(x==("__debug__":Str))=false) (hc:(x==("__classdict__":Str))=false):bv c n env m (eval (.Name x pos) env) L Q X:=by
 intro A s _ _ S V
 show(fg (V.cell x v hv (.inr hk)) λa rv ha b d=>?_,.of (HP (wpAny_loadName_free V.kind hk ha b (aN S h d) hc) hd))
theorem St.ns {L:ah} {s:Ad} (S:St c L s):s.heap.Ns HL ((kA c.w.params).nsMap BP):=by
 have:=EI (agk S.stat)
 rw [bL (c3 S.stat)] at this
 exact this.keeps S.base
theorem St.nsB {L:ah} {s:Ad} (S:St c L s):s.heap.Ns B2 ((kA c.w.params).nsMap B2):=by
 have:=EI (akr S.stat)
 rw [bL (c0 S.stat)] at this
 exact this.keeps S.base
noncomputable def sv:Ae->Option V
 | .none=>some .none
 | .bool b=>some (.bool b)
 | .int i _=>some (.int i)
 | .str s _=>some (.str s)
 | .bytes b _=>some (.bytes b.toList)
 | .ref a=>some (.obj a)
 | _=>none
theorem ajh {h:Heap} {F:List Addr} {rv:Ae} {v:V} (e:sv rv=some v):VR h F v rv:=by
 cases rv with
 | none=>cases e;exact .none
 | bool=>cases e;exact .bool _
 | int=>cases e;exact .int _ _
 | str=>cases e;exact .str _ _
 | bytes=>cases e;exact .bytes _ _
 | ref=>cases e;exact .obj _
 | _=>cases e
theorem aoh {i:Int} {k:Nat} {pos:Pos} (h:Q (.int i) L):bv c n env m (eval (.Constant (.int i) k pos) env) L Q X:=by
 intro A s _ _ S _
 exact .of (wpAny_Constant_int (ay S h (.int _ _)))
theorem aoi {i:Str} {k:Nat} {pos:Pos} (h:Q (.str i) L):bv c n env m (eval (.Constant (.str i) k pos) env) L Q X:=by
 intro A s _ _ S _
 exact .of (HQ (ay S h (.str _ _)))
theorem agr {i:List UInt8} {k:Nat} {pos:Pos} (h:Q (.bytes i) L):bv c n env m (eval (.Constant (.bytes i) k pos) env) L Q X:=by
 intro A s _ _ S _
 exact .of λO O O=>ay (t:=s.toks+1) S h (.bytes _ _)
theorem ak2 {k:Nat} {pos:Pos} (h:Q .none L):bv c n env m (eval (.Constant .none k pos) env) L Q X:=by
 intro A s _ _ S _
 exact .of (wpAny_Constant_none (aN S h .none))
theorem ak3 {b:Bool} {k:Nat} {pos:Pos} (h:Q (.bool b) L):bv c n env m (eval (.Constant (.bool b) k pos) env) L Q X:=by
 intro A s _ _ S _
 exact .of (EQ (aN S h (.bool b)))
theorem two {l r:Expr} {op:Ae->Ae->Sem Ae} {A:Around} {s:Ad}
 (h:bv c n env m (eval l env) L (λv1 L1=>bv c n env m (eval r env) L1 (λv2 L2=>bj c n op v1 v2 L2 Q X) X) X)
 (hb:jF n A) (hf:bF c A s.heap) (S:St c L s) (V:aA c s.heap (foot (c.R++L)) env m):
 av (At pw c.w) A (eval l env) (λa s₁=>av (At pw c.w) A (eval r env) (λb s₂=>av (At pw c.w) A (op a b) (cD c L s Q) (bG c L s X) s₂) (bG c L s X) s₁) (bG c L s X) s:=by
 refine ai (h A s hb hf S V) (λr1 s1 g1=>?_) λO O z=>z
 obtain ⟨v1,L1,k1,S1,x1,e1⟩:=g1
 refine ai (k1 A s1 hb (hf.evo S e1) S1 (V.evo S e1)) (λr2 s2 g2=>?_) λO O z=>z.after e1
 obtain ⟨v2,L2,k2,S2,x2,e2⟩:=g2
 exact dM (k2.go A s2 r1 r2 hb ((hf.evo S e1).evo S1 e2) S2 (x1.mono e2.ext) x2) (λO O z=>(z.after e2).after e1) λO O z=>(z.after e2).after e1
theorem aoj {l r:Expr} {op:Operator} {pos:Pos} (h:bv c n env m (eval l env) L (λv1 L1=>bv c n env m (eval r env) L1 (λv2 L2=>bj c n (CC op) v1 v2 L2 Q X) X) X):
 bv c n env m (eval (.BinOp l op r pos) env) L Q X:=λO O hb hf S V=>agm (two h hb hf S V)
theorem aol {l r:Expr} {op:Ex} {pos:Pos} (h:bv c n env m (eval l env) L (λv1 L1=>bv c n env m (eval r env) L1 (λv2 L2=>bj c n (AU op) v1 v2 L2 Q X) X) X)
 (hm:Er op r=false):bv c n env m (eval (.Compare l [op] [r] pos) env) L Q X:=λO O hb hf S V=>xA (two h hb hf S V) hm
theorem asf {x:Expr} {op:UnaryOp} {pos:Pos} (h:bv c n env m (eval x env) L (λv L1=>OkU c n (unaryOp op) v L1 Q X) X):bv c n env m (eval (.UnaryOp op x pos) env) L Q X:=by
 intro A s hb hf S V
 refine zN (ai (h A s hb hf S V) (λr1 s1 g1=>?_) λO O z=>z)
 obtain ⟨v1,L1,k1,S1,x1,e1⟩:=g1
 exact dM (k1.go A s1 r1 hb (hf.evo S e1) S1 x1) (λO O z=>z.after e1) λO O z=>z.after e1
theorem ak4 {e:Expr} {Q:Bool->ah->Prop} (h:bv c n env m (eval e env) L (λv L1=>OkT c n v L1 Q X) X)
 (he:∀ whole,Bj e env whole=(do let v ← whole;DR e.pos;CW [v] (FH v))):lF c n env m (Bj e env (eval e env)) L Q X:=by
 intro A s hb hf S V
 refine acd (ai (h A s hb hf S V) (λr1 s1 g1=>?_) λO O z=>z) (he _)
 obtain ⟨v1,L1,k1,S1,x1,e1⟩:=g1
 exact dM (k1.go A s1 r1 hb (hf.evo S e1) S1 x1) (λO O z=>z.after e1) λO O z=>z.after e1
theorem zQ {l r:Expr} {op:Ex} {pos:Pos} {whole:Sem Ae} {Q:Bool->ah->Prop} (h:bv c n env m (eval l env) L (λv1 L1=>bv c n env m (eval r env) L1 (λv2 L2=>bj c n (AU op) v1 v2 L2 (λv L3=>OkT c n v L3 Q X) X) X) X)
 (hm:Er op r=false):lF c n env m (Bj (.Compare l [op] [r] pos) env whole) L Q X:=by
 intro A s hb hf S V
 refine lK (ai (h A s hb hf S V) (λr1 s1 g1=>?_) λO O z=>z) hm
 obtain ⟨v1,L1,k1,S1,x1,e1⟩:=g1
 refine ai (k1 A s1 hb (hf.evo S e1) S1 (V.evo S e1)) (λr2 s2 g2=>?_) λO O z=>z.after e1
 obtain ⟨v2,L2,k2,S2,x2,e2⟩:=g2
 refine dM (k2.go A s2 r1 r2 hb ((hf.evo S e1).evo S1 e2) S2 (x1.mono e2.ext) x2) (λr3 s3 g3=>?_) λO O z=>(z.after e2).after e1
 obtain ⟨v3,L3,k3,S3,x3,e3⟩:=g3
 exact dM (k3.go A s3 r3 hb (((hf.evo S e1).evo S1 e2).evo S2 e3) S3 x3) (λO O z=>((z.after e3).after e2).after e1) λO O z=>((z.after e3).after e2).after e1
theorem zR {x:Expr} {pos:Pos} {whole:Sem Ae} {Q:Bool->ah->Prop} (h:lF c n env m (Bj x env (eval x env)) L (λb L1=>Q (!b) L1) X):lF c n env m (Bj (.UnaryOp .Not x pos) env whole) L Q X:=
 λA s hb hf S V=>tG (ai (h A s hb hf S V) (λO O z=>z.mono λO q=>q) λO O z=>z)
theorem xF {pos:Pos} {whole:Sem Ae} {Q:Bool->ah->Prop} (h:Q true L):lF c n env m (Bj (.BoolOp .And [] pos) env whole) L Q X:=λO O O O S O=>.of (isTrue_and_nil (pO S h))
theorem zS {pos:Pos} {whole:Sem Ae} {Q:Bool->ah->Prop} (h:Q false L):lF c n env m (Bj (.BoolOp .Or [] pos) env whole) L Q X:=λO O O O S O=>.of (isTrue_or_nil (pO S h))
theorem zT {x:Expr} {rest:List Expr} {pos:Pos} {whole:Sem Ae} {Q:Bool->ah->Prop}
 (h:lF c n env m (Bj x env (eval x env)) L (λb L1=>match b with | true=>lF c n env m (Bj (.BoolOp .And rest pos) env whole) L1 Q X | false=>Q false L1) X):lF c n env m (Bj (.BoolOp .And (x::rest) pos) env whole) L Q X:=by
 intro A s hb hf S V
 refine tH (ai (h A s hb hf S V) (λb s1 g=>?_) λO O z=>z)
 obtain ⟨L1,k,S1,e⟩:=g
 cases b with
 | true=>exact ai (k A s1 hb (hf.evo S e) S1 (V.evo S e)) (λO O z=>z.after e) λO O z=>z.after e
 | false=>exact ⟨L1,k,S1,e⟩
theorem acl {x:Expr} {rest:List Expr} {pos:Pos} {whole:Sem Ae} {Q:Bool->ah->Prop}
 (h:lF c n env m (Bj x env (eval x env)) L (λb L1=>match b with | false=>lF c n env m (Bj (.BoolOp .Or rest pos) env whole) L1 Q X | true=>Q true L1) X):lF c n env m (Bj (.BoolOp .Or (x::rest) pos) env whole) L Q X:=by
 intro A s hb hf S V
 refine u6 (ai (h A s hb hf S V) (λb s1 g=>?_) λO O z=>z)
 obtain ⟨L1,k,S1,e⟩:=g
 cases b with
 | false=>exact ai (k A s1 hb (hf.evo S e) S1 (V.evo S e)) (λO O z=>z.after e) λO O z=>z.after e
 | true=>exact ⟨L1,k,S1,e⟩
theorem ags {test body orelse:Expr} {pos:Pos} (h:lF c n env m (Bj test env (eval test env)) L (λb L1=>match b with | true=>bv c n env m (eval body env) L1 Q X | false=>bv c n env m (eval orelse env) L1 Q X) X):
 bv c n env m (eval (.IfExp test body orelse pos) env) L Q X:=by
 intro A s hb hf S V
 refine agl (ai (h A s hb hf S V) (λb s1 g=>?_) λO O z=>z)
 obtain ⟨L1,k,S1,e⟩:=g
 cases b <;> exact ai (k A s1 hb (hf.evo S e) S1 (V.evo S e)) (λO O z=>z.after e) λO O z=>z.after e
theorem vg {pos:Pos} {Q:List V->ah->Prop} (h:Q [] L):cI c n env m (AY pos (Ay [] env)) L Q X:=λO O O O S O=>.of (EA ⟨[],L,h,S,.nil,bD.refl _ _⟩)
theorem zU {x:Expr} {rest:List Expr} {pos:Pos} {Q:List V->ah->Prop} (h:bv c n env m (eval x env) L (λv L1=>cI c n env m (AY pos (Ay rest env)) L1 (λvs L2=>Q (v::vs) L2) X) X)
 (hs:Ay (x::rest) env=(false,eval x env)::Ay rest env):cI c n env m (AY pos (Ay (x::rest) env)) L Q X:=by
 intro A s hb hf S V
 rw [hs]
 refine cV (ai (h A s hb hf S V) (λr1 s1 g1=>?_) λO O z=>z)
 obtain ⟨v1,L1,k1,S1,x1,e1⟩:=g1
 refine ai (k1 A s1 hb (hf.evo S e1) S1 (V.evo S e1)) (λrs s2 g2=>?_) λO O z=>z.after e1
 obtain ⟨vs,L2,k2,S2,x2,e2⟩:=g2
 exact ⟨_,L2,k2,S2,.cons (x1.mono e2.ext) x2,e1.trans e2⟩
theorem bT.len {h:Heap} {F:List Addr} {l:List V} {vs:List Ae} (x:bT h F l vs):vs.length=l.length:=x.ind (P:=λl vs=>vs.length=l.length) rfl λO O e=>congrArg Fb e
theorem aL (h:Heap):h.get? h.objs.size=none:=by
 cases q:h.get? h.objs.size with
 | none=>rfl
 | some o=>exact absurd (AZ q) (DK _)
theorem St.size_out {L:ah} {s:Ad} (S:St c L s):s.heap.objs.size∉foot (c.R++L):=λhm=>by
 refine aE (S.heap_of hm) λo e=>?_
 rw [aL] at e;cases e
theorem lO {s:Ad} {o:Obj} {v:V} (S:St c L s) (h:Q v L) (hv:VR (s.heap.push o) (foot (c.R++L)) v (.ref s.heap.objs.size)):cD c L s Q (.ref s.heap.objs.size) { s with heap:=s.heap.push o }:=
 dC S h (λO O e=>Aj _ e) hv
theorem agt {elts:List Expr} {k:Nat} {pos:Pos} (h:cI c n env m (AY pos (Ay elts env)) L (λvs L1=>vs.length≤1000∧Q (.tup vs) L1) X):bv c n env m (eval (.Tuple elts k pos) env) L Q X:=by
 intro A s hb hf S V
 refine agn (ai (h A s hb hf S V) (λrs s1 g1=>?_) λO O z=>z)
 obtain ⟨vs,L1,⟨hl,k1⟩,S1,x1,e1⟩:=g1
 refine ⟨by rw [x1.len,AQ];lia,cD.after e1 (lO S1 k1 (.tup S1.size_out (Ax _ rfl) (x1.mono (dN λO O e=>Aj _ e))))⟩
theorem acm {elts:List Expr} {pos:Pos} (h:cI c n env m (AY pos (Ay elts env)) L (λvs L1=>vs.length≤1000∧Q (.list vs) L1) X):bv c n env m (eval (.List elts pos) env) L Q X:=by
 intro A s hb hf S V
 refine xB (ai (h A s hb hf S V) (λrs s1 g1=>?_) λO O z=>z)
 obtain ⟨vs,L1,⟨hl,k1⟩,S1,x1,e1⟩:=g1
 refine ⟨by rw [x1.len,AQ];lia,cD.after e1 (lO S1 k1 (.list S1.size_out (Ax _ rfl) (x1.mono (dN λO O e=>Aj _ e))))⟩
end
inductive bW:ah->Addr->aj->ah->Prop
 | here {a:Addr} {c:aj} {L:ah}:bW ((a,c)::L) a c L
 | there {a:Addr} {c:aj} {p:Addr × aj} {L L':ah} (x:bW L a c L'):bW (p::L) a c (p::L')
theorem bW.perm {L L':ah} {a:Addr} {c:aj} (x:bW L a c L'):L.Perm ((a,c)::L'):=by
 induction x with
 | here=>exact .refl _
 | there _ ih=>exact (ih.cons _).trans (.swap _ _ _)
theorem bW.mem {L L':ah} {a:Addr} {c:aj} (x:bW L a c L'):(a,c)∈L:=x.perm.mem_iff.mpr (.head _)
theorem fH {L L':ah} (h:∀ p∈L,p∈L'):∀ a∈foot L,a∈foot L':=λa ha=>by
 show(an (List.mem_flatMap.mp ha) λp hp hx=>?_,cj (h p hp) hx)
theorem aP {L L':ah} (h:L.Perm L'):(foot L).Perm (foot L'):=by
 induction h with
 | nil=>exact .refl _
 | cons x _ ih=>unfold foot;rw [Bs,Bs];exact ih.append_left _
 | swap x y l=>unfold foot;rw [Bs,Bs,Bs,Bs,← Aq,← Aq];exact (Ef).append_right _
 | trans _ _ a b=>exact a.trans b
theorem bx.mem {h:Heap} {F F':List Addr} (E:∀ a,a∈F'->a∈F):bx F F' h h:=⟨λO O e O O=>e,λb hb=>.inl (E b hb)⟩
theorem VR.memF {h:Heap} {F F':List Addr} (E:∀ a,a∈F'->a∈F) {v:V} {rv:Ae} (x:VR h F v rv):VR h F' v rv:=x.mono (.mem E)
theorem bT.memF {h:Heap} {F F':List Addr} (E:∀ a,a∈F'->a∈F) {l:List V} {vs:List Ae} (x:bT h F l vs):bT h F' l vs:=x.mono (.mem E)
theorem Own.memF {w:World} {h:Heap} {F F':List Addr} (E:∀ a,a∈F'->a∈F) {p:Addr × aj} (x:Own w h F p):Own w h F' p:=by
 have S:∀ {fs es},ey w.params h F fs es->ey w.params h F' fs es:=λy=>by induction y with | nil=>exact .nil | cons a _ ih=>exact .cons (a.memF E) ih
 have I:∀ {K:Type} {fs:List (K × V)} {es:List (K × Ae)},bV h F fs es->bV h F' fs es:=λy=>by induction y with | nil=>exact .nil | cons a _ ih=>exact .cons (a.memF E) ih
 obtain ⟨a,c⟩:=p
 cases c with
 | inst C d fs=>obtain ⟨h1,es,n,h2,h3⟩:=x;exact ⟨h1,es,n,h2,S h3⟩
 | dS fs=>refine an x λkvs h2 h3=>?_;exact ⟨kvs,h2,I h3⟩
 | dI fs=>refine an x λkvs h2 h3=>?_;exact ⟨kvs,h2,I h3⟩
 | lst l=>refine oq x λes n h2 h3=>?_;exact ⟨es,n,h2,h3.memF E⟩
 | barr b=>exact x
theorem St.sub {c:Cx} {L L':ah} {s:Ad} (S:St c L s) (hs:∀ p∈L',p∈L) (nd:(foot L').Nodup):St c L' s:=by
 have sub:∀ a∈foot (c.R++L'),a∈foot (c.R++L):=by
  rw [ar,ar];intro a ha
  exact List.mem_append.mpr ((List.mem_append.mp ha).imp id (fH hs a))
 refine ⟨S.base,S.stat,λp hp=>(S.own p (List.mem_append.mpr ((List.mem_append.mp hp).imp id (hs p)))).memF sub,?_,λa ha=>S.lo a (List.mem_append.mpr ((List.mem_append.mp ha).imp id (sub a))),S.gens,S.fr⟩
 have N:=S.nd
 rw [ar] at N ⊢
 show[dR (List.nodup_append.mp N) λn1 n2 n3=>?_,dR (List.nodup_append.mp n2) λm1 m2 m3=>?_]
 refine List.nodup_append.mpr ⟨n1,List.nodup_append.mpr ⟨m1,nd,λa ha b hb=>m3 a ha b (fH hs b hb)⟩,λa ha b hb=>n3 a ha b (List.mem_append.mpr ((List.mem_append.mp hb).imp id (fH hs b)))⟩
theorem St.ndL {c:Cx} {L:ah} {s:Ad} (S:St c L s):(foot L).Nodup:=by
 have N:=S.nd
 rw [ar] at N
 exact (List.nodup_append.mp (List.nodup_append.mp N).2.1).2.1
theorem St.perm {c:Cx} {L L':ah} {s:Ad} (h:L.Perm L') (S:St c L s):St c L' s:=S.sub (λp hp=>h.mem_iff.mpr hp) ((aP h).nodup_iff.mp S.ndL)
theorem St.suffix {c:Cx} {G L:ah} {s:Ad} (S:St c (G++L) s):St c L s:=S.sub (λO hp=>Aa _ hp) (by have:=S.ndL;rw [ar] at this;exact (List.nodup_append.mp this).2.1)
theorem St.turn {c:Cx} {L:ah} {s:Ad} {a d:Addr} {x x':aj} {h':Heap} {tk:Nat} (S:St c ((a,x)::L) s) (hd:d∈aM (a,x)) (hs:BS d s.heap h') (hl:∃ o,h'.get? d=some o)
 (hf:aM (a,x')=aM (a,x)) (own':Own c.w h' (foot (c.R++((a,x)::L))) (a,x')):St c ((a,x')::L) { s with heap:=h',toks:=tk }∧bD (foot ((a,x)::L)) (foot ((a,x')::L)) s { s with heap:=h',toks:=tk }:=by
 have eF:foot ((a,x')::L)=foot ((a,x)::L):=by unfold foot;rw [Bs,Bs,hf]
 have eG:foot (c.R++((a,x')::L))=foot (c.R++((a,x)::L)):=by rw [ar,ar,eF]
 have hmem:d∈foot ((a,x)::L):=cj (.head _) hd
 have hmem':d∈foot (c.R++((a,x)::L)):=by rw [ar];exact Aa _ hmem
 have k:∀ b o,s.heap.get? b=some o->b≠d->h'.get? b=some o:=λb o e q=>(hs.2 b q).trans e
 have kk:Keeps (foot ((a,x)::L)) s.heap h':=λb o e hb=>k b o e λq=>hb (q▸hmem)
 have ev:bD (foot ((a,x)::L)) (foot ((a,x')::L)) s { s with heap:=h',toks:=tk }:=⟨kk,.of λb o e=>by
  by_cases q:b=d
  ·subst q;exact hl
  ·exact ⟨o,k b o e q⟩,λb hb=>.inl (eF▸hb),rfl⟩
 have nd:=S.nd
 have N:=(List.nodup_append.mp nd).2.1
 rw [ar] at N
 refine dR (List.nodup_append.mp N) λO N2 N3=>?_
 have N4:(aM (a,x)++foot L).Nodup:=N2
 have other:∀ q∈c.R++L,∀ b∈aM q,b≠d:=by
  intro q hq b hb e
  subst e
  rcases List.mem_append.mp hq with hq | hq
  ·exact N3 b (cj hq hb) b hmem rfl
  ·exact (List.nodup_append.mp N4).2.2 b hd b (cj hq hb) rfl
 have eE:bx (foot (c.R++((a,x)::L))) (foot (c.R++((a,x)::L))) s.heap h':=⟨λb o e O hb=>k b o e λq=>hb (q▸hmem'),λO hb=>.inl hb⟩
 refine ⟨⟨λb o e=>k b o (S.base b o e) λq=>?_,S.stat,λq hq=>?_,by rw [eG];exact S.nd,by rw [eG];exact S.lo,S.gens,λb hb=>?_⟩,ev⟩
 ·have lo:=(S.lo d (Aa _ hmem')).1
  rw [q,lo] at e;cases e
 ·rw [eG]
  rcases List.mem_append.mp hq with h1 | h1
  ·exact (S.own q (Ag _ h1)).mono eE λb hb o e=>k b o e (other q (Ag _ h1) b hb)
  ·rcases List.mem_cons.mp h1 with rfl | h1
   ·exact own'
   ·exact (S.own q (Aa _ (.tail _ h1))).mono eE λb hb o e=>k b o e (other q (Aa _ h1) b hb)
 ·show(an (S.fr b hb) λo e dd=>?_,⟨o,k b o e λq=>(List.nodup_append.mp nd).2.2 b hb d hmem' q,dd⟩)
theorem pP {P:Params} {h:Heap} {F:List Addr} {fs:List (Str × V)} {es:List Bi} (x:ey P h F fs es) (n:Nat) (y:Str):
 match fs.lookup y with
 | some v=>∃ rv,HR y (Ek es n)=some (some rv)∧VR h F v rv
 | none=>HR y (Ek es n)=some none:=by
 induction x with
 | nil=>rfl
 | @cons x v t rv r es hv hr ih=>
  rw [A7]
  by_cases q:(y==x)=true
  ·rw [q]
   refine ⟨rv,?_,hv⟩
   unfold HR
   have:(Dj x t).isStr y=true:=by
    show (x==y)=true
    rw [eq_of_beq q];exact beq_self_eq_true _
   simp [A8,this]
  ·rw [Dy] at q
   rw [q]
   have ne:(Dj x t).isStr y=false:=by
    show (x==y)=false
    rw [beq_eq_false_iff_ne] at q ⊢
    exact λe=>q e.symm
   have hk:(⟨CZ P x,.str x t,rv⟩:Bi).refKey=false:=rfl
   have e:HR y (Ek (⟨CZ P x,.str x t,rv⟩::es) n)=HR y (Ek es n):=by
    unfold HR
    simp [A8,ne,FF,hk]
   rw [e];exact ih
noncomputable def attrOk (K:Frag) (C:Addr) (name:Str):Bool:=
 (clsIn K C).any (·.hasDict)&&DH K (.ref C) name==some none&&DH K (.ref C) "__getattribute__"==some (some (.builtin "object.__getattribute__"))
theorem findObj_own {K:Frag} {C:Addr} {od:Obj} {name:Str} {rv:Ae} (hk:attrOk K C name=true) (hl:HR name od=some (some rv)):findObj K C (some od) name=some (.value rv):=by
 have hk:=(Al _ _).mp ((Al _ _).mp hk).1
 refine an (any_some hk.1) λcd hc hd=>?_
 delta findObj
 rw [hc]
 show (DH K (.ref C) name).bind _=_
 rw [eq_of_beq hk.2]
 show (HC cd (some od) name).bind _=_
 rw [show HC cd (some od) name=some (some rv) by unfold HC;rw [if_pos hd];exact hl]
 rfl
theorem yV {w:World} {h:Heap} {F:List Addr} {a C d:Addr} {fs:List (Str × V)} (x:Own w h F (a,.inst C d fs)):∃ es n,InstAt h a (Il C d) C (some (Ek es n))∧ey w.params h F fs es:=by
 obtain ⟨h1,es,n,h2,h3⟩:=x
 exact ⟨es,n,⟨h1,rfl,rfl,h2⟩,h3⟩
section
variable {c:Cx} {n:Nat} {env:Env} {m:Loc} {L:ah} {Q:ad} {X:ac}
theorem aom {a C d:Addr} {fs:List (Str × V)} {name:Str} {expr:Bool} {v:V} (hm:(a,aj.inst C d fs)∈c.R++L) (hf:fs.lookup name=some v) (hk:∀ P,attrOk (K0 P) C name=true) (h:Q v L):
 OkU c n (λo=>Hg o name expr) (.obj a) L Q X:=by
 refine ⟨λA s r O O S x=>?_⟩
 obtain ⟨_,rfl⟩:=x.inv
 refine oq (yV (S.own _ hm)) λes nn I he=>?_
 have z:=pP he nn name
 rw [hf] at z
 refine an z λrv hl hv=>?_
 have hk:=hk c.w.params
 exact get_value S.K I (eq_of_beq ((Al _ _).mp hk).2) (findObj_own hk hl) hv.handed (ay S h hv)
theorem ak5 {e:Expr} {name:Str} {pos:Pos} (h:bv c n env m (eval e env) L (λv L1=>OkU c n (λo=>Hg o name true) v L1 Q X) X)
 (he:eval (.Attribute e name pos) env=(do
  let o ← eval e env
  DR pos.atName
  let r ← CW [o] (Hg o name true)
  GU e o r
  pure r)):bv c n env m (eval (.Attribute e name pos) env) L Q X:=by
 intro A s hb hf S V
 refine akx (ai (h A s hb hf S V) (λr1 s1 g1=>?_) λO O z=>z) he
 obtain ⟨v1,L1,k1,S1,x1,e1⟩:=g1
 exact dM (k1.go A s1 r1 hb (hf.evo S e1) S1 x1) (λO O z=>z.after e1) λO O z=>z.after e1
noncomputable def mW (fs:List (Str × V)) (x:Str) (v:V):List (Str × V):=fs.rec [(x,v)] λp r ih=>match p.1==x with
 | true=>(p.1,v)::r
 | false=>p::ih
theorem agu {P:Params} {h:Heap} {F:List Addr} {fs:List (Str × V)} {es:List Bi} (x:ey P h F fs es) {v:V} {rv:Ae} (hv:VR h F v rv) (name:Str) (tk:Tok):
 match es.findIdx? (·.key.isStr name) with
 | some i=>ey P h F (mW fs name v) (es.modify i λe=>{ e with val:=rv })
 | none=>ey P h F (mW fs name v) (es++[⟨CZ P name,.str name tk,rv⟩]):=by
 induction x with
 | nil=>exact .cons hv .nil
 | @cons y u t ru r es hu hr ih=>
  rw [Fc,show mW ((y,u)::r) name v=(match y==name with | true=>(y,v)::r | false=>(y,u)::mW r name v) from rfl]
  cases q:y==name with
  | true=>
   rw [if_pos (show (Dj y t).isStr name=true from q)]
   exact ey.cons hv hr
  | false=>
   rw [if_neg (ne_true_of_eq_false (show (Dj y t).isStr name=false from q))]
   cases hi:es.findIdx? (·.key.isStr name) with
   | none=>rw [hi] at ih;exact ey.cons hu ih
   | some i=>rw [hi] at ih;exact ey.cons hu ih
theorem vh {P:Params} {h:Heap} {F:List Addr} {fs:List (Str × V)} {es:List Bi} (x:ey P h F fs es) {v:V} {rv:Ae} (hv:VR h F v rv) (name:Str) (tk:Tok) (n:Nat):
 ∃ es' n',Obj.putName name (CZ P name) (.str name tk) rv (Ek es n)=Ek es' n'∧ey P h F (mW fs name v) es':=by
 have z:=agu x hv name tk
 rw [Obj.putName_eq]
 cases hi:es.findIdx? (·.key.isStr name) with
 | none=>
  rw [hi] at z
  refine ⟨_,n+1,?_,z⟩
  simp only [HS,GK,hi,List.push_toArray]
 | some i=>
  rw [hi] at z
  refine ⟨_,n,?_,z⟩
  simp only [HS,GK,hi,List.modify_toArray]
theorem agv {P:Params} {h:Heap} {F:List Addr} {fs:List (Str × V)} {es:List Bi} (x:ey P h F fs es):es.length=fs.length:=by
 induction x with
 | nil=>rfl
 | cons _ _ ih=>simp [ih]
theorem acn {P:Params} {h:Heap} {F:List Addr} {fs:List (Str × V)} {es:List Bi} (x:ey P h F fs es):es.toArray.any (·.refKey)=false:=by
 rw [← Array.any_toList]
 show es.any (·.refKey)=false
 induction x with
 | nil=>rfl
 | cons _ _ ih=>rw [FF,ih];rfl
theorem aco (fs:List (Str × V)) (x:Str) (v:V):(mW fs x v).length≤fs.length+1:=by
 induction fs with
 | nil=>exact AL _
 | cons p r ih=>
  show (match p.1==x with | true=>(p.1,v)::r | false=>p::mW r x v).length≤_
  cases p.1==x with
  | true=>exact Br _
  | false=>exact BD ih
noncomputable def storeOk (K:Frag) (C:Addr) (name:Str):Bool:=
 (clsIn K C).any (·.hasDict)&&plainOver K C&&takerIn K C name==some none&&DH K (.ref C) "__setattr__"==some (some (.builtin "object.__setattr__"))
theorem acp {w:World} {A:Around} {E:Ae->Ad->Prop} {s:Ad} {Q:Unit->Ad->Prop} {h:Heap} {F:List Addr} {fs:List (Str × V)} {es:List Bi} {nn:Nat} {d:Addr} {name:Str} {v:V} {rv:Ae} (hD:s.heap.get? d=some (Ek es nn)) (he:ey w.params h F fs es) (hv:VR h F v rv) (hlen:fs.length≤900)
 (hq:∀ H es' n',H.get? d=some (Ek es' n')->ey w.params h F (mW fs name v) es'->BS d s.heap H->es'.toArray.size≤Dn+1->Q () { s with heap:=H,toks:=s.toks+1 }):AF (At pw w) A (nsSet d name rv) Q E s:=by
 unfold nsSet
 refine Ac (Ac (wpAny_askSetting (An (Ac (wpAny_mkText (Ac (G2 hD ?_)))))))
 show AF _ _ (if _ then _ else _) _ _ _
 rw [aRefKeyMayBeTheName_at,acn he,Bool.and_false,if_neg AK]
 refine oq (vh he hv name s.toks nn) λes' n' e1 e2=>?_
 have D':(s.heap.update d (Obj.putName name (CZ w.params name) (.str name s.toks) rv)).get? d=some (Ek es' n'):=by
  rw [← e1];exact BX _ hD (by rw [e1];rfl)
 refine wpAny_updatePart hD (hq _ es' n' D' e2 (Cr ..) ?_)
 rw [Bl,AQ,agv e2]
 exact Ai (aco fs name v) (Ai (BD hlen) (by decide))
structure OkW (c:Cx) (n:Nat) (op:Ae->Ae->Sem Unit) (v1 v2:V) (L:ah) (Q:ah->Prop) (X:ac):Prop where
 go:∀ (A:Around) (s:Ad) (r1 r2:Ae),jF n A->bF c A s.heap->St c L s->mO c L s v1 r1->mO c L s v2 r2->
  AF (At pw c.w) A (op r1 r2) (λO s'=>∃ L',Q L'∧St c L' s'∧bD (foot L) (foot L') s s') (bG c L s X) s
theorem aon {a C d:Addr} {fs:List (Str × V)} {name:Str} {L₁:ah} {v:V} {Q:ah->Prop} (hp:bW L a (.inst C d fs) L₁) (hk:∀ P,storeOk (K0 P) C name=true) (hlen:fs.length≤900) (h:Q ((a,.inst C d (mW fs name v))::L₁)):
 OkW c n (λo x=>Jf o name x) (.obj a) v L Q X:=by
 refine ⟨λA s r rv O O S x hv=>?_⟩
 obtain ⟨_,rfl⟩:=x.inv
 have k1:=(Al _ _).mp (hk c.w.params)
 have k2:=(Al _ _).mp k1.1
 have k3:=(Al _ _).mp k2.1
 have pm:=hp.perm
 have S1:=S.perm pm
 obtain ⟨hx,es,nn,hD,he⟩:=S1.own (a,.inst C d fs) (Aa _ (.head _))
 have I:InstAt s.heap a (Il C d) C (some (Ek es nn)):=⟨hx,rfl,rfl,hD⟩
 show[set_plain S.K I (eq_of_beq k1.2)]
 have S':(K0 c.w.params).In s.heap:=S.K
 show[osa_open (s:={ s with toks:=s.toks+1 }) S' I k3.2 (eq_of_beq k2.2) λb=>?_,an (any_some k3.1) λcd hc hd'=>?_,Ac (An (Ac (Ac (G2 hx (Ac ((looks_clsIn S' hc).at ?_))))))]
 rw [hd']
 show[An (a:=some d) (Ac (An (Ac ?_))),acp (s:={ s with toks:=s.toks+1 }) hD he (hv.memF λb=>(aP (pm.append_left c.R)).mem_iff.mpr) hlen λH es' n' D' e2 hs hl=>Ac (FV D' (pastItsLine_dict hl) ?_)]
 have nd:(aM (a,aj.inst C d fs)++foot L₁).Nodup:=S1.ndL
 have hne:a≠d:=λe=>(List.nodup_cons.mp nd).1 (e▸.head _)
 have hd:d∈aM (a,aj.inst C d fs):=.tail _ (.head _)
 show(bS (S1.turn (x':=.inst C d (mW fs name v)) (tk:=s.toks+1+1) hd hs ⟨_,D'⟩ rfl ⟨(hs.2 a hne).trans hx,es',n',D',e2.mono ⟨λb o e O hb=>(hs.2 b λq=>hb (by rw [q];exact cj (Aa _ (.head _)) hd)).trans e,λO hb=>.inl hb⟩⟩) λT ev=>?_,An ⟨_,h,T,ev.more λb=>(aP pm).mem_iff.mpr⟩)
end
noncomputable def tM (o:Obj):Obj:={ o with data:=.freed }
theorem get?_gone (h:Heap) (a:Addr):(h.update a tM).get? a=none:=by
 cases q:(h.update a tM).get? a with
 | none=>rfl
 | some o=>
  refine bS (Heap.get?_some_iff.mp q) λe1 e2=>?_
  cases h with
  | mk objs l=>
   simp only [Heap.update,GM,if_true] at e1
   cases hx:objs[a]? with
   | none=>rw [hx] at e1;cases e1
   | some x=>
    rw [hx] at e1
    cases e1
    cases e2
noncomputable def strip (h:Heap):List Addr->Heap
 | []=>h
 | a::S=>(strip h S).update a tM
theorem iF {h:Heap} {S:List Addr} {a:Addr} (ha:a∈S):(strip h S).get? a=none:=by
 induction S with
 | nil=>cases ha
 | cons b S ih=>
  unfold strip
  by_cases q:a=b
  ·subst q;exact get?_gone _ _
  ·rw [Cu _ _ (Fw q)]
   exact ih ((List.mem_cons.mp ha).resolve_left q)
theorem mX {h:Heap} {S:List Addr} {a:Addr} (ha:a∉S):(strip h S).get? a=h.get? a:=by
 induction S with
 | nil=>rfl
 | cons b S ih=>
  unfold strip
  rw [Cu _ _ λq=>ha (by rw [q];exact .head _)]
  exact ih λhm=>ha (.tail _ hm)
theorem FrE.fun {c:Cx} {h:Heap} {base:Heap}:∀ {l:List Env},(∀ e∈l,FrE c h e)->(∀ f∈l.filterMap (·.frame),base.get? f=none)->h.FunFrames base l
 | [],_,_=>trivial
 | e::l,x,k=>by
  refine e44 ((x e (.head _)).at_) λf o es ep a b O d g=>?_
  rw [AO,a] at k
  exact ⟨(x e (.head _)).kind,⟨f,o,a,k f (.head _),d,λvs q=>by rw [g] at q;cases q⟩,FrE.fun (λe he=>x e (.tail _ he)) λf hf=>k f (.tail _ hf)⟩
inductive acq (h₀ h:Heap) (a:Addr) (C:Addr):Prop
 | raw (oe:Obj) (vs:Array Ae) (he:h.get? a=some oe) (hc:oe.cls=.ref C) (hd:oe.data=.fields vs) (h1:vs[1]?=some .none)
 | traced (t:h.Traced h₀ a (.ref C))
theorem vm {c:Cx} {L:ah} {s₁:Ad} {A:Around} {env:Env} {outer:List Env} {a:Addr} {C:Addr} {h₀:Heap} {Q:Unit->Ad->Prop} {E:Ae->Ad->Prop}
 (hA:A.frames=some (env::outer)) (hF:∀ x∈env::outer,FrE c s₁.heap x) (hB:∀ b o,c.B.get? b=some o->h₀.get? b=some o)
 (S:St c L s₁) (ha:h₀.get? a=none) (x:acq h₀ s₁.heap a C) (lv:dX h₀ s₁.heap)
 (h:∀ h',St c L { s₁ with heap:=h' }->sL h₀ h' (.ref a) C->(∀ x∈env::outer,FrE c h' x)->dX h₀ h'->
  (∀ b o,s₁.heap.get? b=some o->h₀.get? b≠none->∃ sl,h'.get? b=some { o with slots:=sl }∧(b∉c.Fr->sl=o.slots))->Q () { s₁ with heap:=h' }):
 AF (At pw c.w) A (Hk env (.ref a)) Q E s₁:=by
 obtain ⟨T,hnT,hT,heF⟩:∃ T,h₀.get? T=none∧(∀ o,s₁.heap.get? T=some o->T≠a->(∃ vs,o.data=.fields vs))∧∃ oe vs,s₁.heap.get? a=some oe∧oe.cls=.ref C∧oe.data=.fields vs∧
  (vs[1]?=some .none∨∃ oT ts,vs[1]?=some (.ref T)∧T≠a∧s₁.heap.get? T=some oT∧oT.data=.fields ts∧ts[3]?=some .none):=by
  cases x with
  | raw oe vs he hc hd h1=>exact ⟨a,ha,λO O q=>(q rfl).elim,oe,vs,he,hc,hd,.inl h1⟩
  | traced t=>
   show(e58 t λoe vs T oT ts he hcls hd h1 hnT hTe hT hdT h3=>?_,⟨T,hnT,λo e O=>by rw [hT] at e;cases e;exact ⟨ts,hdT⟩,oe,vs,he,hcls,hd,.inr ⟨oT,ts,h1,hTe,hT,hdT,h3⟩⟩)
 refine e23 heF λoe vs he hcls hd h1=>?_
 have hm:∀ f∈(env::outer).filterMap (·.frame),f∈c.Fr∧c.B.get? f=none∧∃ o es ep,s₁.heap.get? f=some o∧o.data=.dict es ep:=by
  intro f hf
  show[an (List.mem_filterMap.mp hf) λy hy hyf=>?_,e44 ((hF y hy).at_) λf' o es ep a1 b1 c1 d1 g1=>?_]
  rw [a1] at hyf;cases hyf
  exact ⟨b1,c1,o,es,ep,d1,g1⟩
 let S₀:=a::T::(env::outer).filterMap (·.frame)
 have inS:∀ b,b∈S₀->b=a∨b=T∨b∈(env::outer).filterMap (·.frame):=λb hb=>by
  rcases List.mem_cons.mp hb with q | hb
  ·exact .inl q
  ·exact .inr (List.mem_cons.mp hb)
 have dat:∀ b o,b=a∨b=T->s₁.heap.get? b=some o->∃ vs,o.data=.fields vs:=λb o hb e=>by
  by_cases q:b=a
  ·subst q;rw [he] at e;cases e;exact ⟨vs,hd⟩
  ·rcases hb with hb | hb
   ·exact (q hb).elim
   ·subst hb;exact hT o e q
 have hl:s₁.heap.FunFrames (strip s₁.heap S₀) (env::outer):=FrE.fun hF λf hf=>iF (.tail _ (.tail _ hf))
 refine e44 ((hF env (.head _)).at_) λf of esf epf hf O O O O=>?_
 have hkb:(strip s₁.heap S₀).StaysIn s₁.heap:=λb o hb=>by
  by_cases q:b∈S₀
  ·rw [iF q] at hb;cases hb
  ·rwa [mX q] at hb
 have fin:∀ h',Heap.Left (strip s₁.heap S₀) (env::outer) a (.ref C) s₁.heap h'->Q () { s₁ with heap:=h' }:=by
  intro h' hL
  refine e03 hL λk1 k2 k3 k4=>?_
  have stay:∀ b o,b∉S₀->s₁.heap.get? b=some o->h'.get? b=some o:=λb o q e=>k1 b o ((mX q).trans e)
  have baseOut:∀ b o,c.B.get? b=some o->b∉S₀:=λb o e q=>by
   rcases inS b q with rfl | rfl | q
   ·rw [hB _ _ e] at ha;cases ha
   ·rw [hB _ _ e] at hnT;cases hnT
   ·rw [(hm b q).2.1] at e;cases e
  have ledOut:∀ b,b∈foot (c.R++L)->b∉S₀:=λb hb q=>by
   show[an (List.mem_flatMap.mp hb) λp hp hbp=>?_,an (pN (S.own p hp) hbp) λo ho hno=>?_]
   have no:b=a∨b=T->False:=λz=>by refine aE (dat b o z ho) λvs' e=>?_;exact hno _ e
   rcases inS b q with e | e | q
   ·exact no (.inl e)
   ·exact no (.inr e)
   ·exact (List.nodup_append.mp S.nd).2.2 b (hm b q).1 b hb rfl
  have ext:bx (foot (c.R++L)) (foot (c.R++L)) s₁.heap h':=⟨λb o e ho O=>stay b o (λq=>by
   refine e20 ho λvs' n' hv=>?_
   have no:b=a∨b=T->False:=λz=>by refine aE (dat b o z e) λws e'=>?_;rw [e'] at hv;cases hv
   rcases inS b q with z | z | q
   ·exact no (.inl z)
   ·exact no (.inr z)
   ·obtain ⟨_,_,o',es',ep',g1,g2⟩:=hm b q
    rw [g1] at e;cases e;rw [g2] at hv;cases hv) e,λb hb=>.inl hb⟩
  have slot:∀ b∈(env::outer).filterMap (·.frame),∀ o,s₁.heap.get? b=some o->∃ sl,h'.get? b=some { o with slots:=sl }:=λb hb o e=>by
   refine k4 b o e λvs' q=>?_
   obtain ⟨_,_,o',es',ep',g1,g2⟩:=hm b hb
   rw [g1] at e;cases e;rw [g2] at q;cases q
  have frs:∀ b∈c.Fr,∃ o,h'.get? b=some o∧∀ vs,o.data≠.fields vs:=λb hb=>by
   show(an (S.fr b hb) λo e dd=>?_,aE (k4 b o e dd) λsl e'=>?_,⟨_,e',dd⟩)
  refine h h' ⟨λb o e=>stay b o (baseOut b o e) (S.base b o e),S.stat,λp hp=>(S.own p hp).mono ext λb hb o e=>stay b o (ledOut b (cj hp hb)) e,S.nd,S.lo,S.gens,frs⟩ ⟨a,rfl,ha,?_⟩ (λy hy=>(hF y hy).of λb o es ep hb e hd'=>?_) (λb hb=>?_) λb o e hb=>?_
  ·show[e58 k3 λoe' vs' T' oT' ts' he' hcls' hd' h1' hnT' hTe' hT' hdT' h3'=>?_,⟨oe',vs',T',oT',ts',he',hcls',hd',h1',?_,hTe',hT',hdT',h3'⟩]
   cases q:h₀.get? T' with
   | none=>rfl
   | some o=>
    exfalso
    by_cases q':T'∈S₀
    ·rcases inS T' q' with e | e | e
     ·exact hTe' e
     ·rw [e,hnT] at q;cases q
     ·obtain ⟨_,_,o',es',ep',g1,g2⟩:=hm T' e
      refine aE (slot T' e _ g1) λsl e'=>?_
      rw [hT'] at e';cases e'
      rw [g2] at hdT';cases hdT'
    ·rw [mX q'] at hnT'
     rw [lv _ hnT'] at q;cases q
  ·by_cases q:b∈(env::outer).filterMap (·.frame)
   ·show(aE (slot b q o e) λsl e'=>?_,⟨_,es,ep,e',hd'⟩)
   ·refine ⟨o,es,ep,stay b o (λq'=>?_) e,hd'⟩
    have no:b=a∨b=T->False:=λz=>by refine aE (dat b o z e) λws e'=>?_;rw [e'] at hd';cases hd'
    rcases inS b q' with z | z | z
    ·exact no (.inl z)
    ·exact no (.inr z)
    ·exact q z
  ·cases q:h₀.get? b with
   | none=>rfl
   | some o=>
    exfalso
    by_cases q':b∈S₀
    ·rcases inS b q' with z | z | e
     ·rw [z,ha] at q;cases q
     ·rw [z,hnT] at q;cases q
     ·obtain ⟨_,_,o',es',ep',g1,g2⟩:=hm b e
      refine aE (slot b e _ g1) λsl e'=>?_
      rw [hb] at e';cases e'
    ·cases q2:s₁.heap.get? b with
     | none=>rw [lv _ q2] at q;cases q
     | some o2=>rw [stay b o2 q' q2] at hb;cases hb
  ·by_cases q:b∈S₀
   ·rcases inS b q with z | z | q
    ·exact (hb (z▸ha)).elim
    ·exact (hb (z▸hnT)).elim
    ·show(aE (slot b q o e) λsl e'=>?_,⟨sl,e',λn=>(n (hm b q).1).elim⟩)
   ·exact ⟨o.slots,stay b o q e,λO=>rfl⟩
 cases x with
 | raw oe' vs' he' hc' hd' h1'=>
  exact wpAny_leaving_first hA hl hf he' hkb (iF (.head _)) hd' h1' (by rw [hc'];exact fin)
 | traced t=>
  refine e58 t λoe' vs' T' oT' ts' he' hcls' hd' h1' hnT' hTe' hT' hdT' h3'=>?_
  have eT:T'=T:=by
   rw [he] at he';cases he'
   rw [hd] at hd';cases hd'
   rcases h1 with h1 | ⟨_,_,h1,_⟩
   ·rw [h1] at h1';cases h1'
   ·rw [h1] at h1';cases h1';rfl
  subst eT
  exact wpAny_leaving_next hA hl hf ⟨oe',vs',T',oT',ts',he',hcls',hd',h1',iF (.tail _ (.head _)),hTe',hT',hdT',h3'⟩ hkb (iF (.head _)) fin
noncomputable def ig (env:Env):List Addr:=env.locals::env.cells.filterMap (λp=>env.cells.lookup p.1)
theorem pQ {env:Env} {b:Addr} (h:b∈ig env):b=env.locals∨∃ x,env.cells.lookup x=some b:=by
 rcases List.mem_cons.mp h with h | h
 ·exact .inl h
 ·refine an (List.mem_filterMap.mp h) λp O e=>?_;exact .inr ⟨_,e⟩
theorem iG (env:Env):env.locals∈ig env:=.head _
theorem vn {α:Type} {x:Str} {a:α} {l:List (Str × α)} (h:l.lookup x=some a):∃ p∈l,p.1=x:=⟨_,mem_of_lookup h,rfl⟩
theorem zV {env:Env} {x:Str} {a:Addr} (h:env.cells.lookup x=some a):a∈ig env:=by
 show(an (vn h) λp hp e=>?_,.tail _ (List.mem_filterMap.mpr ⟨p,hp,by rw [e];exact h⟩))
noncomputable abbrev b8 (env:Env) (L L':ah) (s s':Ad):Prop:=bD (ig env++foot L) (ig env++foot L') s s'
theorem bD.toS {env:Env} {L L':ah} {s s':Ad} (e:bD (foot L) (foot L') s s'):b8 env L L' s s':=
 ⟨λb o x hb=>e.keep b o x λm=>hb (Aa _ m),e.live,λb hb=>(List.mem_append.mp hb).elim (λh=>.inl (Ag _ h)) λh=>(e.grow b h).imp (Aa _) id,e.os⟩
theorem aA.own {c:Cx} {h:Heap} {F:List Addr} {env:Env} {m:Loc} (V:aA c h F env m) {b:Addr} (hb:b∈ig env):b∈c.Fr∧∃ o,h.get? b=some o∧¬ seqObj o:=by
 rcases pQ hb with rfl | ⟨x,hx⟩
 ·show(an V.ns λmm q1' O=>?_,e32 q1' λo es ep ho hd O=>?_,⟨V.loc,o,ho,λ⟨vs,n,q⟩=>by rw [hd] at q;cases q⟩)
 ·obtain ⟨h1,_,v,o,ho,hd⟩:=V.cells x b hx
  exact ⟨h1,o,ho,λ⟨vs,n,q⟩=>by rw [hd] at q;cases q⟩
theorem b8.ext {c:Cx} {env:Env} {m:Loc} {L L':ah} {s s':Ad} (V:aA c s.heap (foot (c.R++L)) env m) (S':St c L' s') (e:b8 env L L' s s'):bx (foot (c.R++L)) (foot (c.R++L')) s.heap s'.heap:=by
 refine ⟨λb o x hs hb=>e.keep b o x λm=>?_,λb hb=>?_⟩
 ·rcases List.mem_append.mp m with m | m
  ·obtain ⟨_,o',h1,h2⟩:=V.own m
   rw [x] at h1;cases h1;exact h2 hs
  ·exact hb (by rw [ar];exact Aa _ m)
 ·rw [ar] at hb ⊢
  rcases List.mem_append.mp hb with hb | hb
  ·exact .inl (Ag _ hb)
  ·rcases e.grow b (Aa _ hb) with h1 | h1
   ·rcases List.mem_append.mp h1 with h1 | h1
    ·exact (S'.out (V.own h1).1 hb).elim
    ·exact .inl (Aa _ h1)
   ·exact .inr h1
theorem aA.sub {c:Cx} {h:Heap} {F:List Addr} {env:Env} {m m':Loc} (V:aA c h F env m) (hm:∀ x v,m'.lookup x=some v->m.lookup x=some v):aA c h F env m':=by
 show(an V.ns λmm h1 h2=>?_,⟨V.kind,V.glob,V.blt,⟨mm,h1,λx v e=>h2 x v (hm x v e)⟩,λx v e=>V.cell x v (hm x v e),V.cells,V.inj,V.loc⟩)
structure mP (c:Cx) (A:Around) (env:Env) (h:Heap):Prop where
 at_:∃ outer,A.frames=some (env::outer)∧∀ e∈env::outer,FrE c h e
theorem mP.ok {c:Cx} {A:Around} {env:Env} {h:Heap} (x:mP c A env h):bF c A h:=let ⟨outer,a,b⟩:=x.at_;⟨_,a,b⟩
theorem mP.evo {c:Cx} {A:Around} {env:Env} {m m':Loc} {L L':ah} {s s':Ad} (S:St c L s) (x:mP c A env s.heap) (V:aA c s.heap (foot (c.R++L)) env m) (V':aA c s'.heap (foot (c.R++L')) env m') (e:b8 env L L' s s'):mP c A env s'.heap:=by
 show[an x.at_ λouter a b=>?_,⟨outer,a,λy hy=>(b y hy).of λf o es ep hf ho hd=>?_⟩]
 by_cases q:f∈ig env
 ·rcases pQ q with rfl | ⟨x,hx⟩
  ·show(an V'.ns λmm q1' O=>?_,e32 q1' λo' es' ep' ho' hd' O=>?_,⟨o',es',ep',ho',hd'⟩)
  ·obtain ⟨_,_,v,o',ho',hd'⟩:=V.cells x f hx
   rw [ho] at ho';cases ho';rw [hd] at hd';cases hd'
 ·exact ⟨o,es,ep,e.keep f o ho λm=>(List.mem_append.mp m).elim q (S.out hf),hd⟩
noncomputable abbrev a8:=Loc->ah->Prop
section
variable (c:Cx) (env:Env)
inductive gv (L:ah) (s:Ad) (N:a8) (s':Ad):Prop
 | mk (m':Loc) (L':ah) (q:N m' L') (S:St c L' s') (V:aA c s'.heap (foot (c.R++L')) env m') (e:b8 env L L' s s')
inductive asg (L:ah) (s:Ad) (R:ad) (rv:Ae) (s':Ad):Prop
 | mk (v:V) (L':ah) (q:R v L') (S:St c L' s') (x:mO c L' s' v rv) (e:b8 env L L' s s')
noncomputable def tN (L:ah) (s:Ad) (N:a8) (R:ad) (K:a8):Flow->Ad->Prop
 | .next,s'=>gv c env L s N s'
 | .cont,s'=>gv c env L s K s'
 | .ret rv,s'=>asg c env L s R rv s'
 | .brk,_=>False
inductive yW (L:ah) (s:Ad) (X:ac) (e:Ae) (s':Ad):Prop
 | mk (C:Addr) (L':ah) (q:X C L') (S:St c L' s') (x:sL s.heap s'.heap e C) (e:kE c.Fr (ig env++foot L) (ig env++foot L') s s')
noncomputable def pR (A:Around) (L:ah) (s:Ad) (X:ac) (e:Ae) (s':Ad):Prop:=
 AF (At pw c.w) A (Hk env e) (λO s''=>yW c env L s X e s'') (λO O=>False) s'
noncomputable def fD (n:Nat) (m:Loc) (t:Sem Flow) (L:ah) (N:a8) (R:ad) (K:a8) (X:ac):Prop:=
 ∀ (A:Around) (s:Ad),jF n A->mP c A env s.heap->St c L s->aA c s.heap (foot (c.R++L)) env m->av (At pw c.w) A t (tN c env L s N R K) (pR c env A L s X) s
noncomputable def zW (n:Nat) (m:Loc) (t:Ae->Sem Unit) (v:V) (L:ah) (N:a8) (X:ac):Prop:=
 ∀ (A:Around) (s:Ad) (r:Ae),jF n A->mP c A env s.heap->St c L s->aA c s.heap (foot (c.R++L)) env m->mO c L s v r->av (At pw c.w) A (t r) (λO=>gv c env L s N) (pR c env A L s X) s
end
section
variable {c:Cx} {n:Nat} {env:Env} {m:Loc} {L:ah} {N:a8} {R:ad} {K:a8} {X:ac}
theorem gv.after {L':ah} {s s' s'':Ad} (e:b8 env L L' s s') (x:gv c env L' s' N s''):gv c env L s N s'':=by
 obtain ⟨m',L2,a,b,d,f⟩:=x;exact ⟨m',L2,a,b,d,e.trans f⟩
theorem gv.mono {N':a8} {s s':Ad} (x:gv c env L s N s') (h:∀ m L,N m L->N' m L):gv c env L s N' s':=let ⟨m',L2,a,b,d,f⟩:=x;⟨m',L2,h _ _ a,b,d,f⟩
theorem yW.after {L':ah} {s s':Ad} {rv:Ae} {s'':Ad} (e:b8 env L L' s s') (x:yW c env L' s' X rv s''):yW c env L s X rv s'':=by
 obtain ⟨v,L2,a,b,d,f⟩:=x;exact ⟨v,L2,a,b,d.base e.live,e.thenX f⟩
theorem tN.after {L':ah} {s s' s'':Ad} {f:Flow} (e:b8 env L L' s s') (x:tN c env L' s' N R K f s''):tN c env L s N R K f s'':=by
 cases f with
 | next=>exact gv.after e x
 | cont=>exact gv.after e x
 | brk=>exact x
 | ret rv=>obtain ⟨v,L2,a,b,d,f⟩:=x;exact ⟨v,L2,a,b,d,e.trans f⟩
theorem pR.after {A:Around} {L':ah} {s s':Ad} {rv:Ae} {s'':Ad} (e:b8 env L L' s s') (x:pR c env A L' s' X rv s''):pR c env A L s X rv s'':=
 BC x (λO O z=>z.after e) λO O z=>z
theorem pR.mono {A:Around} {X':ac} {s:Ad} {rv:Ae} {s'':Ad} (h:∀ C L',X C L'->X' C L') (x:pR c env A L s X rv s''):pR c env A L s X' rv s'':=
 BC x (λO O z=>let ⟨C,L',a,b,d,e⟩:=z;⟨C,L',h _ _ a,b,d,e⟩) λO O z=>z
theorem sM {A:Around} {s s':Ad} {L':ah} {a C:Addr} (hf:mP c A env s'.heap) (S:St c L s) (hx:X C L') (S':St c L' s') (ha:s.heap.get? a=none) (x:acq s.heap s'.heap a C)
 (ev:kE c.Fr (ig env++foot L) (ig env++foot L') s s'):pR c env A L s X (.ref a) s':=by
 show(an hf.at_ λouter hA hF=>?_,vm hA hF S.base S' ha x ev.live λh' S'' e' O lv k=>⟨C,L',hx,S'',e',⟨λb o e hb=>?_,lv,ev.grow,ev.os⟩⟩,an (ev.keep b o e hb) λsl h1 h2=>?_,an (k b _ h1 (by rw [e];simp)) λsl' h3 h4=>?_,⟨sl',h3,λq=>by rw [h4 q];exact h2 q⟩)
theorem bG.leave {A:Around} {s s':Ad} {e:Ae} (hf:mP c A env s.heap) (S:St c L s) (V:aA c s.heap (foot (c.R++L)) env m) (x:bG c L s X e s'):pR c env A L s X e s':=by
 obtain ⟨C,L',h1,S',⟨a,rfl,h2,h3⟩,ev⟩:=x
 show[an hf.at_ λouter hA hF=>?_,sM ⟨outer,hA,λy hy=>(hF y hy).of λb o es ep hb ho hd=>?_⟩ S h1 S' h2 (.traced h3) ⟨λb o e hb=>ev.keep b o e λm=>hb (Aa _ m),ev.live,λb hb=>?_,ev.os⟩]
 ·show(an (ev.keep b o ho (S.out hb)) λsl e1 O=>?_,⟨_,es,ep,e1,hd⟩)
 ·exact (List.mem_append.mp hb).elim (λh=>.inl (Ag _ h)) λh=>(ev.grow b h).imp (Aa _) id
theorem fD.mono {t:Sem Flow} {N':a8} {R':ad} {K':a8} {X':ac} (h:fD c env n m t L N R K X) (hN:∀ m' L',N m' L'->N' m' L') (hR:∀ v L',R v L'->R' v L') (hK:∀ m' L',K m' L'->K' m' L') (hX:∀ C L',X C L'->X' C L'):fD c env n m t L N' R' K' X':=by
 intro A s a b d e
 refine ai (h A s a b d e) (λf s' g=>?_) λO O z=>z.mono hX
 cases f with
 | next=>exact g.mono hN
 | cont=>exact g.mono hK
 | brk=>exact g
 | ret rv=>obtain ⟨v,L',x,a,b,d⟩:=g;exact ⟨v,L',hR _ _ x,a,b,d⟩
theorem aoo (h:N m L):fD c env n m (Cw [] env) L N R K X:=λO s O O S V=>.of <| Df ⟨m,L,h,S,V,bD.refl _ _⟩
theorem aji {st:Stmt} {rest:List Stmt} (h:fD c env n m (exec st env) L (λm1 L1=>fD c env n m1 (Cw rest env) L1 N R K X) R K X):fD c env n m (Cw (st::rest) env) L N R K X:=by
 intro A s hb hf S V
 refine lM (ai (h A s hb hf S V) (λf s1 g=>?_) λO O z=>z)
 cases f with
 | next=>
  obtain ⟨m1,L1,k,S1,V1,e⟩:=g
  exact ai (k A s1 hb (hf.evo S V V1 e) S1 V1) (λO O z=>z.after e) λO O z=>z.after e
 | cont=>exact g
 | brk=>exact g
 | ret rv=>exact g
theorem pU {t:Sem Ae} {Q:ad} {A:Around} {s:Ad} {P:Ae->Ad->Prop} (h:bv c n env m t L Q X) (hb:jF n A) (hf:mP c A env s.heap) (S:St c L s) (V:aA c s.heap (foot (c.R++L)) env m)
 (k:∀ rv s',∀ v L',Q v L'->St c L' s'->mO c L' s' v rv->b8 env L L' s s'->aA c s'.heap (foot (c.R++L')) env m->mP c A env s'.heap->P rv s'):av (At pw c.w) A t P (pR c env A L s X) s:=by
 refine ai (h A s hb hf.ok S V) (λrv s' g=>?_) λe s' z=>z.leave hf S V
 obtain ⟨v,L',q,S',hv,e⟩:=g
 exact k rv s' v L' q S' hv e.toS (V.evo S e) (hf.evo S V (V.evo S e) e.toS)
theorem ajj {t:Sem Bool} {Q:Bool->ah->Prop} {A:Around} {s:Ad} {P:Bool->Ad->Prop} (h:lF c n env m t L Q X) (hb:jF n A) (hf:mP c A env s.heap) (S:St c L s) (V:aA c s.heap (foot (c.R++L)) env m)
 (k:∀ b s',∀ L',Q b L'->St c L' s'->b8 env L L' s s'->aA c s'.heap (foot (c.R++L')) env m->mP c A env s'.heap->P b s'):av (At pw c.w) A t P (pR c env A L s X) s:=by
 refine ai (h A s hb hf.ok S V) (λrv s' g=>?_) λe s' z=>z.leave hf S V
 obtain ⟨L',q,S',e⟩:=g
 exact k rv s' L' q S' e.toS (V.evo S e) (hf.evo S V (V.evo S e) e.toS)
theorem agw {e:Expr} {pos:Pos} (h:bv c n env m (eval e env) L (λO L1=>N m L1) X) (hi:Ey env=false) (hs:Hj e none pos.line env=pure false):fD c env n m (exec (.Expr e pos) env) L N R K X:=
 λA s hb hf S V=>acg (pU h hb hf S V λO O O L' q S' O e V' O=>⟨m,L',q,S',V',e⟩) hi hs
theorem acr {e:Expr} {pos:Pos} (h:bv c n env m (eval e env) L R X):fD c env n m (exec (.Return (some e) pos) env) L N R K X:=
 λA s hb hf S V=>acf (pU h hb hf S V λO O v L' q S' hv e O O=>⟨v,L',q,S',hv,e⟩)
theorem zX {pos:Pos} (h:R .none L):fD c env n m (exec (.Return none pos) env) L N R K X:=
 λA s hb hf S V=>.of (wpAny_Return_none ⟨.none,L,h,S,.none,bD.refl _ _⟩)
theorem ak6 {pos:Pos} (h:K m L):fD c env n m (exec (.Continue pos) env) L N R K X:=λA s hb hf S V=>.of (wpAny_Continue ⟨m,L,h,S,V,bD.refl _ _⟩)
theorem ak7 {pos:Pos} (h:N m L):fD c env n m (exec (.Pass pos) env) L N R K X:=λA s hb hf S V=>.of (wpAny_Pass ⟨m,L,h,S,V,bD.refl _ _⟩)
theorem ash {test:Expr} {body orelse:List Stmt} {pos:Pos} (h:lF c n env m (Bj test env (eval test env)) L (λb L1=>match b with | true=>fD c env n m (Cw body env) L1 N R K X | false=>fD c env n m (Cw orelse env) L1 N R K X) X):
 fD c env n m (exec (.If test body orelse pos) env) L N R K X:=by
 intro A s hb hf S V
 refine ase (ajj h hb hf S V λb s' L' q S' e V' hf'=>?_)
 cases b <;> exact ai (q A s' hb hf' S' V') (λO O z=>z.after e) λO O z=>z.after e
theorem aA.own1 {s:Ad} {d:Addr} {h':Heap} {tk:Nat} (S:St c L s) (V:aA c s.heap (foot (c.R++L)) env m) (hd:d∈ig env) (hs:∀ b,b≠d->h'.get? b=s.heap.get? b) (ho:∃ o,h'.get? d=some o∧∀ vs,o.data≠.fields vs):
 St c L { s with heap:=h',toks:=tk }∧b8 env L L s { s with heap:=h',toks:=tk }∧bx (foot (c.R++L)) (foot (c.R++L)) s.heap h':=by
 refine bS (V.own hd) λhdF hn=>?_
 have k:∀ b o,s.heap.get? b=some o->b≠d->h'.get? b=some o:=λb o e q=>(hs b q).trans e
 have ext:bx (foot (c.R++L)) (foot (c.R++L)) s.heap h':=⟨λb o e so O=>k b o e λq=>an hn λo' h1 h2=>by rw [q,h1] at e;exact h2 (AH e▸so),λO hb=>.inl hb⟩
 refine ⟨⟨λb o e=>k b o (S.base b o e) λq=>?_,S.stat,λp hp=>(S.own p hp).mono ext λa ha o e=>k a o e λq=>?_,S.nd,S.lo,S.gens,λb hb=>?_⟩,⟨λb o e hb=>k b o e λq=>hb (Ag _ (q▸hd)),.of λb o e=>?_,λO hb=>.inl hb,rfl⟩,ext⟩
 ·rw [q,(S.lo d (Ag _ hdF)).1] at e;cases e
 ·exact (List.nodup_append.mp S.nd).2.2 d hdF a (cj hp ha) q.symm
 ·by_cases q:b=d
  ·exact q▸ho
  ·exact an (S.fr b hb) λo e z=>⟨o,k b o e q,z⟩
 ·by_cases q:b=d
  ·exact an ho λo e O=>⟨o,q▸e⟩
  ·exact ⟨o,k b o e q⟩
theorem aA.storeL {A:Around} {s:Ad} {x:Str} {v:V} {rv:Ae} {Q:Unit->Ad->Prop} {E:Ae->Ad->Prop} (S:St c L s) (V:aA c s.heap (foot (c.R++L)) env m) (hv:mO c L s v rv) (hx:env.kindOf x=some .local)
 (h:∀ h' tk,St c L { s with heap:=h',toks:=tk }->aA c h' (foot (c.R++L)) env ((x,v)::m)->b8 env L L s { s with heap:=h',toks:=tk }->(∀ b,b≠env.locals->h'.get? b=s.heap.get? b)->Q () { s with heap:=h',toks:=tk }):AF (At pw c.w) A (storeName env x rv) Q E s:=by
 show[an V.ns λmm hn hh=>?_,wpAny_storeName_local hx hn (λh' hn' hs=>?_) (by rw [V.kind];rfl)]
 have hs:∀ b,b≠env.locals->h'.get? b=s.heap.get? b:=λb=>hs.2 b
 show[dR (V.own1 (tk:=s.toks+1) S (iG env) hs (e32 hn' λo es ep ho hd O=>⟨o,ho,λvs q=>by rw [hd] at q;cases q⟩)) λS' ev ext=>?_,h h' (s.toks+1) S' ⟨V.kind,V.glob,V.blt,⟨_,hn',λy u e ky=>?_⟩,λy u e ky=>?_,λy a e=>?_,V.inj,V.loc⟩ ev hs]
 ·rw [A7] at e
  by_cases q:y=x
  ·rw [q,beq_self_eq_true] at e
   exact ⟨rv,by rw [if_pos q],AH e▸hv.mono ext⟩
  ·rw [beq_false_of_ne q] at e
   exact an (hh y u e ky) λru h1 h2=>⟨ru,by rw [if_neg q];exact h1,h2.mono ext⟩
 ·rw [A7,beq_false_of_ne λq:y=x=>by rw [q,hx] at ky;rcases ky with ky | ky <;> cases ky] at e
  exact fg (V.cell y u e ky) λa ru h1 q h4=>an q λoc h2 h3=>⟨a,ru,h1,⟨oc,(hs a (V.cells y a h1).2.1).trans h2,h3⟩,h4.mono ext⟩
 ·obtain ⟨h1,h2,u,oc,h3,h4⟩:=V.cells y a e
  exact ⟨h1,h2,u,oc,(hs a h2).trans h3,h4⟩
noncomputable def gx (env:Env) (x:Str):Bool:=env.kindOf x==some .local||(env.kindOf x==some .cell&&(env.cells.lookup x).isSome)
theorem aA.store {A:Around} {s:Ad} {x:Str} {v:V} {rv:Ae} {Q:Unit->Ad->Prop} {E:Ae->Ad->Prop} (S:St c L s) (V:aA c s.heap (foot (c.R++L)) env m) (hv:mO c L s v rv) (hx:gx env x=true)
 (h:∀ s',St c L s'->aA c s'.heap (foot (c.R++L)) env ((x,v)::m)->b8 env L L s s'->Q () s'):AF (At pw c.w) A (storeName env x rv) Q E s:=by
 refine ((I5 _ _).mp hx).elim (λk=>V.storeL S hv (eq_of_beq k) λh' tk S' V' ev O=>h _ S' V' ev) λk=>?_
 have k:=(Al _ _).mp k
 have hk:=eq_of_beq k.1
 show[aE (Option.isSome_iff_exists.mp k.2) λa ha=>?_,an V.ns λmm hn hh=>?_]
 obtain ⟨h1,h2,u,hu⟩:=V.cells x a ha
 show[wpAny_storeName_cell V.kind hk ha hu λh' hc hs=>?_,an hc λo ho hd=>?_,dR (V.own1 (tk:=s.toks) S (zV ha) (λb=>hs.2 b) ⟨o,ho,λvs q=>by rw [hd] at q;cases q⟩) λS' ev ext=>?_,h _ S' ⟨V.kind,V.glob,V.blt,⟨mm,hn.sameBut hs (Fw h2),λy u e ky=>?_⟩,λy u e ky=>?_,λy b e=>?_,V.inj,V.loc⟩ ev]
 ·rw [A7,beq_false_of_ne λq:y=x=>by rw [q,hk] at ky;cases ky] at e
  exact an (hh y u e ky) λru h3 h4=>⟨ru,h3,h4.mono ext⟩
 ·rw [A7] at e
  by_cases q:y=x
  ·rw [q,beq_self_eq_true] at e
   rw [q]
   exact ⟨a,rv,ha,⟨o,ho,hd⟩,AH e▸hv.mono ext⟩
  ·rw [beq_false_of_ne q] at e
   exact fg (V.cell y u e ky) λb ru h3 q1 h6=>an q1 λoc h4 h5=>⟨b,ru,h3,⟨oc,(hs.2 b λz=>q (V.inj y x a (z▸h3) ha)).trans h4,h5⟩,h6.mono ext⟩
 ·obtain ⟨h3,h4,u',oc,h5,h6⟩:=V.cells y b e
  by_cases z:b=a
  ·exact ⟨h3,h4,_,o,z▸ho,hd⟩
  ·exact ⟨h3,h4,u',oc,(hs.2 b z).trans h5,h6⟩
theorem agx {x:Str} {pos:Pos} {v:V} (hx:gx env x=true) (h:N ((x,v)::m) L):zW c env n m (assign (.Name x pos) env) v L N X:=
 λA s r hb hf S V hv=>.of (D8 (V.store S hv hx λs' S' V' e=>⟨_,L,h,S',V',e⟩))
theorem agy {o:Expr} {name:Str} {pos:Pos} {v:V} (h:bv c n env m (eval o env) L (λov L1=>OkW c n (λo x=>Jf o name x) ov v L1 (λL2=>N m L2) X) X):zW c env n m (assign (.Attribute o name pos) env) v L N X:=by
 intro A s r hb hf S V hv
 rw [arm_assign_Attribute]
 show(am (aH (pU h hb hf S V λro s1 ov L1 k S1 x1 e1 V1 hf1=>bM (am (aH ?_)))),dM (k.go A s1 ro r hb hf1.ok S1 x1 (hv.mono (b8.ext V S1 e1))) (λO s2 g=>?_) λO O z=>(z.leave hf1 S1 V1).after e1,ec g λL2 q S2 e2=>?_,.of (HD ⟨m,L2,q,S2,V1.evo S1 e2,e1.trans e2.toS⟩))
end
theorem bx.trans {G G' G'':List Addr} {h h' h'':Heap} (a:bx G G' h h') (b:bx G' G'' h' h'') (lv:dX h h'):bx G G'' h h'':=
 ⟨λx o e so hx=>b.keep x o (a.keep x o e so hx) so λhm=>(a.grow x hm).elim hx λq=>(by rw [e] at q;cases q),λx hx=>(b.grow x hx).elim (a.grow x) λq=>.inr (lv x q)⟩
section
variable {c:Cx} {n:Nat} {env:Env} {m:Loc} {L:ah} {N:a8} {R:ad} {K:a8} {X:ac}
theorem iH {t value:Expr} {pos:Pos} (h:bv c n env m (eval value env) L (λv L1=>zW c env n m (assign t env) v L1 N X) X)
 (he:(Bo [t] env).map (·.2)=[assign t env]) (hs:DM [t] value pos.line env=pure false) (hw:Dg [t] value env=pure none):
 fD c env n m (exec (.Assign [t] value pos) env) L N R K X:=by
 intro A s hb hf S V
 refine ach (pU h hb hf S V λrv s1 v L1 k S1 x1 e1 V1 hf1=>?_) hs hw
 rw [he]
 exact ai (k A s1 rv hb hf1 S1 V1 x1) (λO O z=>gv.after e1 z) λO O z=>z.after e1
noncomputable def tO (c:Cx) (env:Env) (n:Nat) (m:Loc) (ts:List (Ae->Sem Unit)) (vs:List V) (L:ah) (N:a8) (X:ac):Prop:=
 ∀ (A:Around) (s:Ad) (rs:List Ae),jF n A->mP c A env s.heap->St c L s->aA c s.heap (foot (c.R++L)) env m->tK c L s vs rs->av (At pw c.w) A (Dh ts rs) (λO=>gv c env L s N) (pR c env A L s X) s
theorem vo (h:N m L):tO c env n m [] [] L N X:=λA s rs hb hf S V hv=>aq ⟨m,L,h,S,V,bD.refl _ _⟩
theorem sN {t:Ae->Sem Unit} {ts:List (Ae->Sem Unit)} {v:V} {vs:List V} (h:zW c env n m t v L (λm1 L1=>tO c env n m1 ts vs L1 N X) X):tO c env n m (t::ts) (v::vs) L N X:=by
 intro A s rs hb hf S V hv
 cases hv with
 | cons hv hvs=>
  refine oE (ai (h A s _ hb hf S V hv) (λO s1 g=>?_) λO O z=>z)
  obtain ⟨m1,L1,k,S1,V1,e⟩:=g
  exact ai (k A s1 _ hb (hf.evo S V V1 e) S1 V1 (hvs.mono (b8.ext V S1 e))) (λO O z=>gv.after e z) λO O z=>z.after e
theorem St.ext {s:Ad} {h':Heap} (S:St c L s) (e:GW s.heap.objs.size s.heap h'):∀ b o,s.heap.get? b=some o->h'.get? b=some o:=λb o x=>e b o (λq=>by rw [q,aL] at x;cases x) x
theorem ak8 {elts:List Expr} {k:Nat} {pos:Pos} {vs:List V} (h:tO c env n m ((Bo elts env).map (·.2)) vs L N X) (hn:elts.length=vs.length) (hl:(Bo elts env).length=elts.length)
 (hst:(Bo elts env).findIdx? (·.1)=none):zW c env n m (assign (.Tuple elts k pos) env) (.tup vs) L N X:=by
 intro A s r hb hf S V hv
 refine jC hv.inv λO O O q1' hF hg hs=>?_
 subst q1'
 refine pJ hb.handled ⟨_,hg,rfl,_,rfl⟩ (by rw [hl,hn,← hs.len];rfl) hst λh' e=>?_
 have k:=S.ext e
 have ev:bD (foot L) (foot L) s { s with heap:=h' }:=bD.all (t:=s.toks) k
 have S':St c L { s with heap:=h' }:=S.all (t:=s.toks) k
 exact ai (h A _ _ hb (hf.evo S V (V.evo S ev) ev.toS) S' (V.evo S ev) (hs.mono ev.ext)) (λO O z=>gv.after ev.toS z) λO O z=>z.after ev.toS
theorem tP {elts:List Expr} {k:Nat} {tpos:Pos} {value:Expr} {pos:Pos} {names:List Str} (h:bv c n env m (eval value env) L (λv L1=>∃ vs,v=.tup vs∧vs.length=names.length∧tO c env n m (names.reverse.map λx=>Ij env x) vs.reverse L1 N X) X)
 (hw:Dg [.Tuple elts k tpos] value env=pure (some names)) (hs:DM [.Tuple elts k tpos] value pos.line env=pure false):
 fD c env n m (exec (.Assign [.Tuple elts k tpos] value pos) env) L N R K X:=by
 intro A s hb hf S V₀
 show[mU (pU h hb hf S V₀ λrv s1 v L1 q S1 x1 e1 V1 hf1=>?_) hs hw,ec q]
 clear q
 intro vs q1' hl q
 subst q1'
 refine jC x1.inv λrs O O q1' hF hg hsv=>?_
 subst q1'
 have:names.length=(⟨rs⟩:Array Ae).size:=by rw [← hl,← hsv.len];rfl
 rw [this]
 refine .of (FR hb.handled ⟨_,hg,rfl,_,rfl⟩ λh' e=>?_)
 have kk:=S1.ext e
 have ev:bD (foot L1) (foot L1) s1 { s1 with heap:=h' }:=bD.all (t:=s1.toks) kk
 have S':St c L1 { s1 with heap:=h' }:=S1.all (t:=s1.toks) kk
 have rev:∀ {l:List V} {us:List Ae},bT h' (foot (c.R++L1)) l us->∀ {l':List V} {us':List Ae},bT h' (foot (c.R++L1)) l' us'->bT h' (foot (c.R++L1)) (l.reverse++l') (us.reverse++us'):=by
  intro l
  induction l with
  | nil=>intro us a;cases a;intro l' us' b;exact b
  | cons x l ih=>
   intro us a
   cases a with
   | cons hx hxs=>
    intro l' us' b
    rw [FA,FA,Aq,Aq]
    exact ih hxs (.cons hx b)
 have hr:=rev (hsv.mono ev.ext) .nil
 rw [A6,A6] at hr
 exact ai (q A _ _ hb (hf1.evo S1 V1 (V1.evo S1 ev) ev.toS) S' (V1.evo S1 ev) hr) (λO O z=>(gv.after ev.toS z).after e1) λO O z=>(z.after ev.toS).after e1
theorem agz {x:Str} {v:V} (hx:gx env x=true) (h:N ((x,v)::m) L):zW c env n m (Ij env x) v L N X:=
 λA s r hb hf S V hv=>.of (wpAny_bindName (V.store S hv hx λs' S' V' e=>⟨_,L,h,S',V',e⟩))
theorem pR.loop {A:Around} {s s':Ad} {e:Ae} {E₃:Ae->Ad->Prop} (h:pR c env A L s X e s'):
 AF (At pw c.w) A (DZ e env) (λO s₁=>HN (At pw c.w) A env (pR c env A L s X) e s₁) E₃ s':=wpAny_leaving_again (SameStack.refl A) h
noncomputable def bZ:Bool->Prop->Prop->Prop
 | true,x,_=>x
 | false,_,y=>y
theorem ag0 {test:Expr} {body:List Stmt} {pos:Pos} (J:Nat->Loc->ah->Prop)
 (turn:∀ k m1 L1,J k m1 L1->lF c n env m1 (Bj test env (eval test env)) L1 (λb L2=>bZ b (fD c env n m1 (Cw body env) L2 (λm2 L3=>∃ k',k' <k∧J k' m2 L3) R (λm2 L3=>∃ k',k' <k∧J k' m2 L3) X) (N m1 L2)) X) (k:Nat) (h:J k m L):fD c env n m (exec (.While test body [] pos) env) L N R K X:=by
 intro A s hb hf S V
 show[agq,xD (λk s'=>∃ m1 L1,J k m1 L1∧St c L1 s'∧aA c s'.heap (foot (c.R++L1)) env m1∧b8 env L L1 s s'∧mP c A env s'.heap) ?_ k ⟨m,L,h,S,V,bD.refl _ _,hf⟩]
 rintro k s' ⟨m1,L1,hJ,S1,V1,e1,hf1⟩
 show[ai (ajj (P:=λb s2=>∃ L2,bZ b (fD c env n m1 (Cw body env) L2 (λm2 L3=>∃ k',k' <k∧J k' m2 L3) R (λm2 L3=>∃ k',k' <k∧J k' m2 L3) X) (N m1 L2)∧St c L2 s2∧b8 env L1 L2 s' s2∧aA c s2.heap (foot (c.R++L2)) env m1∧mP c A env s2.heap) (turn k m1 L1 hJ) hb hf1 S1 V1 λb s2 L2 q S2 e2 V2 hf2=>⟨L2,q,S2,e2,V2,hf2⟩) (λb s2 g=>?_) λe s2 z=>(z.after e1).loop,e14 g λL2 q S2 e2 V2 hf2=>?_]
 cases b with
 | false=>
  rw [if_neg (by decide)]
  exact .of <| Df ⟨m1,L2,q,S2,V2,e1.trans e2⟩
 | true=>
  rw [if_pos rfl]
  refine ai (q A s2 hb hf2 S2 V2) (λf s3 g=>?_) λe s3 z=>((z.after e2).after e1).loop
  have ends:gv c env L2 s2 (λm2 L3=>∃ k',k' <k∧J k' m2 L3) s3->∃ k',k' <k∧∃ m1 L1,J k' m1 L1∧St c L1 s3∧aA c s3.heap (foot (c.R++L1)) env m1∧b8 env L L1 s s3∧mP c A env s3.heap:=by
   rintro ⟨m',L',⟨k',hk,hJ'⟩,S3,V3,e3⟩
   exact ⟨k',hk,m',L',hJ',S3,V3,(e1.trans e2).trans e3,hf2.evo S2 V2 V3 e3⟩
  cases f with
  | next=>exact ends g
  | cont=>exact ends g
  | brk=>exact g.elim
  | ret rv=>exact tN.after (f:=.ret rv) (e1.trans e2) g
structure Trn (w:World) (A:Around) (target:Expr) (I:Addr) (fp wr:List Addr) (n:Nat) (P:Nat->Ae->Heap->Prop) (Stt:Nat->Heap->Prop):Prop where
 frame:∀ i h h',Stt i h->(∀ b∈fp,∀ o,h.get? b=some o->h'.get? b=some o)->Stt i h'
 turn:∀ i (s:Ad) (Q:Option Ae->Ad->Prop) (E:Ae->Ad->Prop),i <n->Stt i s.heap->
  (∀ v s1,(∀ Q':Unit->Ad->Prop,(∀ h' tk,P i v h'->Stt (i+1) h'->(∀ b o,b∉wr->s.heap.get? b=some o->h'.get? b=some o)->Q' () { s with heap:=h',toks:=tk })->AF (At pw w) A (Dd target (.ref I) v) Q' E s1)->Q (some v) s1)->
  AF (At pw w) A (pyNext (.ref I)) Q E s
 done:∀ (s:Ad) (Q:Option Ae->Ad->Prop) (E:Ae->Ad->Prop),Stt n s.heap->
  (∀ h' tk,(∀ b o,b∉wr->s.heap.get? b=some o->h'.get? b=some o)->Q none { s with heap:=h',toks:=tk })->AF (At pw w) A (pyNext (.ref I)) Q E s
 self:∀ i (s:Ad) (Q:Ae->Ad->Prop) (E:Ae->Ad->Prop),Stt i s.heap->Q (.ref I) s->AF (At pw w) A (II (.ref I)) Q E s
theorem Trn.ofWalks {w:World} {A:Around} {target:Expr} {I:Addr} {fp wr:List Addr} {n:Nat} {P:Nat->Ae->Prop} {Stt:Nat->Heap->Prop} (W:Walks pw w A I fp wr n P Stt)
 (lg:∀ i v (s:Ad) (Q:Unit->Ad->Prop) (E:Ae->Ad->Prop),P i v->Stt (i+1) s.heap->Q () s->AF (At pw w) A (Dd target (.ref I) v) Q E s):Trn w A target I fp wr n (λi v O=>P i v) Stt where
 frame:=W.frame
 turn:=λi s Q E hi st h=>W.item i s Q E hi st λv h' tk hP st' k=>h v _ λQ' q=>lg i v _ Q' E hP st' (q h' tk hP st' k)
 done:=W.done
 self:=W.self
noncomputable abbrev Rel:=Heap->List Addr->V->Ae->Prop
inductive Itr (rel:Rel) (c:Cx) (target:Expr) (L:ah) (l:List V) (s s':Ad) (it:Ae):Prop
 | mk (I:Addr) (fp wr:List Addr) (P:Nat->Ae->Heap->Prop) (Stt:Nat->Heap->Prop) (h0:it=.ref I) (h1:(∀ A:Around,A.handled=none->Trn c.w A target I fp wr l.length P Stt)) (h2:Stt 0 s'.heap) (h3:(∀ b∈fp,b∉foot L∧(b∉c.Fr∨∃ o,s'.heap.get? b=some o∧seqObj o)∧∃ o,s'.heap.get? b=some o)) (h4:(∀ b∈wr,s.heap.get? b=none)) (h5:(∀ i h,Stt i h->∀ b∈wr,∃ o,h.get? b=some o∧¬ seqObj o)) (h6:(∀ i rv h' F',P i rv h'->∀ v,l[i]?=some v->bx (foot (c.R++L)) F' s'.heap h'->rel h' F' v rv)) (keep:∀ b o,s.heap.get? b=some o->s'.heap.get? b=some o) (h':Heap) (t:Nat) (rest:s'={ s with heap:=h',toks:=t })
theorem Itr.mono {rel rel':Rel} {target:Expr} {l:List V} {s s':Ad} {it:Ae} (x:Itr rel c target L l s s' it) (h:∀ h' F v rv,rel h' F v rv->rel' h' F v rv):Itr rel' c target L l s s' it:=by
 obtain ⟨I,fp,wr,P,Stt,a,b,d,e,f,g,i,k,hx,tx,r⟩:=x
 exact ⟨I,fp,wr,P,Stt,a,b,d,e,f,g,λj rv h' F' hp v hv ex=>h _ _ _ _ (i j rv h' F' hp v hv ex),k,hx,tx,r⟩
structure rH (c:Cx) (v:V) (l:List V) (L:ah):Prop where
 go:∀ (A:Around) (s:Ad) (r:Ae) (Q:Ae->Ad->Prop) (E:Ae->Ad->Prop),A.handled=none->St c L s->mO c L s v r->(∀ s' it,(∀ target,Itr VR c target L l s s' it)->Q it s')->AF (At pw c.w) A (II r) Q E s
noncomputable def cF (rel:Rel) (c:Cx) (n:Nat) (env:Env) (m:Loc) (target iter:Expr) (L:ah) (K:List V->ah->Prop) (X:ac):Prop:=
 ∀ (A:Around) (s:Ad) (P:Ae->Ad->Prop) (E:Ae->Ad->Prop),jF n A->bF c A s.heap->St c L s->aA c s.heap (foot (c.R++L)) env m->
  (∀ l L1 s1 s2 it,K l L1->St c L1 s1->bD (foot L) (foot L1) s s1->Itr rel c target L1 l s1 s2 it->P it s2)->(∀ e s',bG c L s X e s'->E e s')->
  av (At pw c.w) A (eval iter env) (λr s1=>av (At pw c.w) A (II r) P E s1) E s
theorem ala {target iter:Expr} {K:List V->ah->Prop} (h:bv c n env m (eval iter env) L (λv L1=>∃ l,rH c v l L1∧K l L1) X):cF VR c n env m target iter L K X:=by
 intro A s P E hb hf S V k kx
 refine ai (h A s hb hf S V) (λr s1 g=>?_) kx
 obtain ⟨v,L1,⟨l,hI,hK⟩,S1,hv,e1⟩:=g
 exact .of <| hI.go A s1 r _ _ hb.handled S1 hv λs2 it T=>k l L1 s1 s2 it hK S1 e1 (T target)
theorem cF.mono {rel rel':Rel} {target iter:Expr} {K:List V->ah->Prop} (h:cF rel c n env m target iter L K X) (hr:∀ h' F v rv,rel h' F v rv->rel' h' F v rv):cF rel' c n env m target iter L K X:=
 λA s P E hb hf S V k kx=>h A s P E hb hf S V (λl L1 s1 s2 it a b d e=>k l L1 s1 s2 it a b d (e.mono hr)) kx
theorem aA.keep {h h':Heap} {F F':List Addr} (V:aA c h F env m) (k:∀ b∈c.Fr,∀ o,h.get? b=some o->h'.get? b=some o) (ex:bx F F' h h'):aA c h' F' env m:=by
 show[an V.ns λmm hn hv=>?_,⟨V.kind,V.glob,V.blt,⟨mm,?_,λy v h1 h2=>?_⟩,λy v h1 h2=>?_,λy a h1=>?_,V.inj,V.loc⟩]
 ·show(e31 hn λo es ep ho r=>?_,⟨o,es,ep,k _ V.loc _ ho,r⟩)
 ·show(an (hv y v h1 h2) λrv a b=>?_,⟨rv,a,b.mono ex⟩)
 ·show(fg (V.cell y v h1 h2) λa rv ha q1' b=>?_,an q1' λo ho hd=>?_,⟨a,rv,ha,⟨o,k _ (V.cells y a ha).1 _ ho,hd⟩,b.mono ex⟩)
 ·obtain ⟨ha,b,v,o,ho,hd⟩:=V.cells y a h1
  exact ⟨ha,b,v,o,k _ ha _ ho,hd⟩
theorem mP.keep {A:Around} {h h':Heap} (x:mP c A env h) (k:∀ b∈c.Fr,∀ o,h.get? b=some o->h'.get? b=some o):mP c A env h':=by
 show(an x.at_ λouter a b=>?_,⟨outer,a,λy hy=>(b y hy).of λf o es ep hf ho hd=>⟨o,es,ep,k f hf o ho,hd⟩⟩)
theorem St.aside {s:Ad} {h':Heap} {tk:Nat} {wr:List Addr} (S:St c L s) (k:∀ b o,b∉wr->s.heap.get? b=some o->h'.get? b=some o) (hw:∀ b∈wr,b∉c.Fr∧b∉foot (c.R++L)∧c.B.get? b=none∧∀ o,s.heap.get? b=some o->¬ seqObj o):
 St c L { s with heap:=h',toks:=tk }∧bx (foot (c.R++L)) (foot (c.R++L)) s.heap h'∧(∀ b∈c.Fr,∀ o,s.heap.get? b=some o->h'.get? b=some o):=by
 have ext:bx (foot (c.R++L)) (foot (c.R++L)) s.heap h':=⟨λb o e so O=>k b o (λhm=>(hw b hm).2.2.2 o e so) e,λO hb=>.inl hb⟩
 have kf:∀ b∈c.Fr,∀ o,s.heap.get? b=some o->h'.get? b=some o:=λb hb o e=>k b o (λhm=>(hw b hm).1 hb) e
 exact ⟨⟨λb o e=>k b o (λhm=>by rw [(hw b hm).2.2.1] at e;cases e) (S.base b o e),S.stat,λp hp=>(S.own p hp).mono ext λa ha o e=>k a o (λhm=>(hw a hm).2.1 (cj hp ha)) e,S.nd,S.lo,S.gens,
  λa ha=>let ⟨o,e,d⟩:=S.fr a ha;⟨o,kf a ha o e,d⟩⟩,ext,kf⟩
inductive aop (c:Cx) (A:Around) (env:Env) (l:List V) (L1:ah) (s:Ad) (hT:Heap) (Stt:Nat->Heap->Prop) (J:Nat->Loc->ah->Prop) (k:Nat) (s':Ad):Prop
 | mk (i:Nat) (m1:Loc) (L2:ah) (hi:i≤l.length) (hk:k=l.length+1 - i) (hJ:J i m1 L2) (S2:St c L2 s') (V2:aA c s'.heap (foot (c.R++L2)) env m1) (e2:b8 env L1 L2 s s') (hf2:mP c A env s'.heap) (st:Stt i s'.heap)
  (ex2:bx (foot (c.R++L1)) (foot (c.R++L2)) hT s'.heap) (g2:∀ b,b∈foot L2->b∈foot L1∨hT.get? b=none) (lv2:dX hT s'.heap)
theorem aoq {target iter:Expr} {body:List Stmt} {pos:Pos}
 (h:cF VR c n env m target iter L (λl L1=>∃ J:Nat->Loc->ah->Prop,J 0 m L1∧
  (∀ i x m1 L2,l[i]?=some x->J i m1 L2->zW c env n m1 (assign target env) x L2 (λm2 L3=>fD c env n m2 (Cw body env) L3 (λm3 L4=>J (i+1) m3 L4) R (λm3 L4=>J (i+1) m3 L4) X) X)∧
  (∀ m1 L2,J l.length m1 L2->N m1 L2)) X)
 (hs:∀ x,CQ iter env x=pure x):fD c env n m (exec (.For target iter body [] pos) env) L N R K X:=by
 intro A s₀ hb hf₀ S₀ V₀
 refine aoe (h A s₀ _ _ hb hf₀.ok S₀ V₀ (λl L1 s s1 it q S ev0 T=>?_) λO O z=>z.leave hf₀ S₀ V₀) hs
 have e0:b8 env L L1 s₀ s:=ev0.toS
 have V:=V₀.evo S₀ ev0
 have hf:mP c A env s.heap:=hf₀.evo S₀ V₀ V e0
 refine ec q λJ hJ0 turn hend=>?_
 obtain ⟨I,fp,wr,P,Stt,rfl,W,st0,hfp,hwr,hws,hP,keep,hT,tT,rfl⟩:=T
 have W:=W A hb.handled
 have ev1:bD (foot L1) (foot L1) s { s with heap:=hT,toks:=tT }:=bD.all keep
 have S1:St c L1 { s with heap:=hT,toks:=tT }:=S.all keep
 have apart:∀ L2 (s':Ad),St c L2 s'->b8 env L1 L2 s s'->(∀ b,b∈foot L2->b∈foot L1∨hT.get? b=none)->(∀ b∈wr,b∉c.Fr∧b∉foot (c.R++L2)∧c.B.get? b=none):=by
  intro L2 s' S2 e2 g b hbw
  have hn:=hwr b hbw
  refine ⟨λhm=>?_,λhm=>?_,?_⟩
  ·refine an (S.fr b hm) λo e O=>?_;rw [hn] at e;cases e
  ·rw [ar] at hm
   rcases List.mem_append.mp hm with hm | hm
   ·refine aE (S.heap_of (a:=b) (by rw [ar];exact Ag _ hm)) λo e=>?_;rw [hn] at e;cases e
   ·rcases g b hm with g | g
    ·refine aE (S.heap_of (a:=b) (by rw [ar];exact Aa _ g)) λo e=>?_;rw [hn] at e;cases e
    ·refine an (hws 0 _ st0 b hbw) λo e O=>?_
     have e:hT.get? b=some o:=e
     rw [g] at e;cases e
  ·cases q:c.B.get? b with
   | none=>rfl
   | some o=>rw [S.base b o q] at hn;cases hn
 refine aci (aop c A env l L1 s hT Stt J) ?_ (l.length+1)
  ⟨0,m,L1,BQ _,rfl,hJ0,S1,V.evo S ev1,ev1.toS,hf.evo S V (V.evo S ev1) ev1.toS,st0,⟨λO O e O O=>e,λO hb=>.inl hb⟩,λO hb=>.inl hb,.refl _⟩
 intro k s' hJJ
 obtain ⟨i,m1,L2,hi,rfl,hJ,S2,V2,e2,hf2,st,ex2,g2,lv2⟩:=hJJ
 have ap:=apart L2 s' S2 e2 g2
 have aside:∀ h' tk,(∀ b o,b∉wr->s'.heap.get? b=some o->h'.get? b=some o)->(∀ b∈wr,∃ o,h'.get? b=some o)->
  St c L2 { s' with heap:=h',toks:=tk }∧aA c h' (foot (c.R++L2)) env m1∧b8 env L1 L2 s { s' with heap:=h',toks:=tk }∧mP c A env h'∧bx (foot (c.R++L1)) (foot (c.R++L2)) hT h'∧dX hT h':=by
  intro h' tk kk ww
  obtain ⟨S3,ex3,kf⟩:=S2.aside (tk:=tk) kk λb hbw=>⟨(ap b hbw).1,(ap b hbw).2.1,(ap b hbw).2.2,λo e so=>by
   refine an (hws i _ st b hbw) λo' e' no=>?_
   rw [e] at e';cases e';exact no so⟩
  have lv3:dX s'.heap h':=.of λb o e=>by
   by_cases q:b∈wr
   ·exact ww b q
   ·exact ⟨o,kk b o q e⟩
  refine ⟨S3,V2.keep kf ex3,⟨λb o e hb'=>kk b o (λhm=>by rw [hwr b hm] at e;cases e) (e2.keep b o e hb'),e2.live.trans lv3,e2.grow,e2.os⟩,hf2.keep kf,ex2.trans ex3 lv2,lv2.trans lv3⟩
 by_cases hlt:i <l.length
 ·show[.of <| W.turn i s' _ _ hlt st λv s1 go=>?_,.of <| go _ λh' tk hv st' kk=>?_]
  obtain ⟨S3,V3,e3,hf3,ex3,lv3⟩:=aside h' tk kk λb hbw=>let ⟨o,e,_⟩:=hws _ _ st' b hbw;⟨o,e⟩
  have hx:l[i]?=some l[i]:=AB hlt
  have hvr:=hP i v _ _ hv _ hx ex3
  have t:=turn i _ m1 L2 hx hJ A { s' with heap:=h',toks:=tk } v hb hf3 S3 V3 hvr
  refine ai t (λO s4 g=>?_) λe s4 z=>(((z.after e3).after e0).loop)
  obtain ⟨m4,L4,k4,S4,V4,e4⟩:=g
  have e4':b8 env L1 L4 s s4:=e3.trans e4
  have hf4:mP c A env s4.heap:=hf3.evo S3 V3 V4 e4
  have ex4:=b8.ext V3 S4 e4
  have g4:∀ b,b∈foot L4->b∈foot L1∨hT.get? b=none:=λb hb4=>by
   rcases e4.grow b (Aa _ hb4) with q | q
   ·rcases List.mem_append.mp q with q | q
    ·exact (S4.out (V3.own q).1 hb4).elim
    ·exact g2 b q
   ·exact .inr (lv3 b q)
  have fpk:∀ L5 (s5:Ad),St c L5 s5->b8 env L2 L5 { s' with heap:=h',toks:=tk } s5->(∀ b,b∈foot L5->b∈foot L1∨hT.get? b=none)->Stt (i+1) s5.heap:=λL5 s5 S5 e5 g5=>by
   refine W.frame (i+1) _ _ st' λb hbf o e=>e5.keep b o e λhm=>?_
   obtain ⟨f1,f2,o',e'⟩:=hfp b hbf
   rcases List.mem_append.mp hm with hm | hm
   ·obtain ⟨z1,o1,z2,z3⟩:=(V.evo S ev1).own hm
    rcases f2 with f2 | ⟨o2,z4,z5⟩
    ·exact f2 z1
    ·have z4:hT.get? b=some o2:=z4
     have z2:hT.get? b=some o1:=z2
     rw [z2] at z4;cases z4;exact z3 z5
   ·rcases g2 b hm with g | g
    ·exact f1 g
    ·have e':hT.get? b=some o':=e'
     rw [g] at e';cases e'
  refine ai (k4 A s4 hb hf4 S4 V4) (λf s5 g=>?_) λe s5 z=>((((z.after e4).after e3).after e0).loop)
  have ends:gv c env L4 s4 (λm3 L4=>J (i+1) m3 L4) s5->∃ k',k' <l.length+1 - i∧aop c A env l L1 s hT Stt J k' s5:=by
   intro g
   obtain ⟨m5,L5,hJ5,S5,V5,e5⟩:=g
   have g5:∀ b,b∈foot L5->b∈foot L1∨hT.get? b=none:=λb hb5=>by
    rcases e5.grow b (Aa _ hb5) with q | q
    ·rcases List.mem_append.mp q with q | q
     ·exact (S5.out (V4.own q).1 hb5).elim
     ·exact g4 b q
    ·exact .inr (lv3 b (e4.live b q))
   exact ⟨l.length+1 - (i+1),Hs (Co hlt) (Dz i),i+1,m5,L5,hlt,rfl,hJ5,S5,V5,e4'.trans e5,hf4.evo S4 V4 V5 e5,fpk L5 s5 S5 (e4.trans e5) g5,
    ((ex3.trans ex4 lv3).trans (b8.ext V4 S5 e5) (lv3.trans e4.live)),g5,(lv3.trans e4.live).trans e5.live⟩
  cases f with
  | next=>exact ends g
  | cont=>exact ends g
  | brk=>exact g.elim
  | ret rv'=>exact tN.after (N:=N) (K:=K) (f:=.ret rv') (e0.trans e4') g
 ·have hil:i=l.length:=EJ hi (Nat.not_lt.mp hlt)
  subst hil
  have done:=W.done s'
  refine .of <| done _ _ st λh' tk kk=>?_
  obtain ⟨S3,ex3,kf⟩:=S2.aside (tk:=tk) kk λb hbw=>⟨(ap b hbw).1,(ap b hbw).2.1,(ap b hbw).2.2,λo e so=>by
   refine an (hws _ _ st b hbw) λo' e' no=>?_
   rw [e] at e';cases e';exact no so⟩
  have e3:b8 env L1 L2 s { s' with heap:=h',toks:=tk }:=⟨λb o e hb'=>kk b o (λhm=>by rw [hwr b hm] at e;cases e) (e2.keep b o e hb'),.of λb o e=>by
   cases q:s'.heap.get? b with
   | none=>rw [e2.live b q] at e;cases e
   | some o'=>exact ⟨o',kk b o' (λhm=>by rw [hwr b hm] at e;cases e) q⟩,e2.grow,e2.os⟩
  exact .of <| Df ⟨m1,L2,hend m1 L2 hJ,S3,V2.keep kf ex3,e0.trans e3⟩
end
noncomputable def pV {α:Type} (K:Frag) (n:Nat):Sem α->Option α:=
 n.rec (λO=>none) λO ih t=>match t with
  | .pure a=>some a
  | .load a _ k=>(K.lookup a).bind λo=>ih (k o)
  | .rule _ k=>ih (k ())
  | _=>none
theorem ow {α:Type} {K:Frag} {M:Model} {A:Around} {E:Ae->Ad->Prop} {s:Ad} {Q:α->Ad->Prop} (X:K.In s.heap) (n:Nat):∀ {t:Sem α} {a:α},pV K n t=some a->Q a s->AF M A t Q E s:=by
 induction n with
 | zero=>intro t a e h;cases e
 | succ n ih=>
  intro t a e h
  cases t with
  | pure b=>exact An (AH e▸h)
  | rule b k=>exact nd_rule (ih e h)
  | load b p k=>exact lG e λo ho e=>nd_load (X _ _ ho) (ih e h)
  | _=>cases e
structure xG (fd:Ap) (k:Nat) (names:List Str) (dn:List (Str × V)):Prop where
 go:∀ (P:Params) (rs:List Ae),rs.length=k->∃ drs:List (Str × Ae),pV (K0 P) 12 (bindArgs fd ⟨rs,[]⟩)=some (names.zip rs++drs)∧drs.map (λp=>(p.1,sv p.2))=dn.map (λp=>(p.1,some p.2))
 len:names.length=k
noncomputable def xH (sc:Scope) (names:List Str):Bool:=
 names.all λx=>sc.names.lookup x==some .local||(sc.names.lookup x==some .cell&&((Cp 0 sc.names []).lookup x).isSome)
noncomputable def kF:List Str->Bool
 | []=>true
 | x::r=>!r.contains x&&kF r
theorem lP:∀ {l:List Str},kF l=true->l.Nodup
 | [],_=>BB
 | x::r,h=>by
  have h:=(Al _ _).mp h
  refine List.nodup_cons.mpr ⟨λhm=>?_,lP h.2⟩
  have h1:=h.1
  rw [List.contains_iff_mem.mpr hm] at h1
  cases h1
theorem mY (x:Str) (names:List (Str × FW)):∀ (n n':Nat) (dT acc':List (Str × Addr)),(dT.lookup x).isSome=(acc'.lookup x).isSome->((Cp n names dT).lookup x).isSome=((Cp n' names acc').lookup x).isSome:=by
 induction names with
 | nil=>intro n n' dT acc' h;exact h
 | cons p r ih=>
  intro n n' dT acc' h
  cases p with | mk y k=>?_
  cases k with
  | cell=>
   show[ih _ _ _ _]
   rw [A7,A7]
   cases x==y with
   | true=>rfl
   | false=>exact h
  | _=>exact ih _ _ _ _ h
theorem rI (names:List (Str × FW)):∀ (n n':Nat) (dT acc':List (Str × Addr)),dT.map Ar=acc'.map Ar->(Cp n names dT).map Ar=(Cp n' names acc').map Ar:=by
 induction names with
 | nil=>intro n n' dT acc' h;exact h
 | cons p r ih=>
  intro n n' dT acc' h
  cases p with | mk y k=>?_
  cases k with
  | cell=>exact ih _ _ _ _ (by rw [A0,A0,h])
  | _=>exact ih _ _ _ _ h
theorem ko {α:Type} {x:Str} {a:α} {l:List (Str × α)} (nd:(l.map Ar).Nodup) (hm:(x,a)∈l):l.lookup x=some a:=by
 induction l with
 | nil=>cases hm
 | cons p r ih=>
  have nd:=List.nodup_cons.mp nd
  cases p with | mk y b=>?_
  rw [A7]
  by_cases q:x=y
  ·subst q
   rw [beq_self_eq_true]
   cases hm with
   | head=>rfl
   | tail _ hm=>exact (nd.1 (AN (f:=Ar) (a:=(x,a)) hm)).elim
  ·rw [beq_false_of_ne q]
   cases hm with
   | head=>exact (q rfl).elim
   | tail _ hm=>exact ih nd.2 hm
section
variable {B:List (Str × Ae)->(Str->Option Ae)->Str->Option Ae} {F:Str->(Str->Option Ae)->(Str->Option Ae)->Str->Option Ae}
theorem act (h0:∀ m,B [] m=m) (h1:∀ n v r m,B ((n,v)::r) m=B r (F n (λy=>if y=n then some v else m y) m)) (hF:∀ n a b,F n a b=a∨F n a b=b) {x:Str} (bs:List (Str × Ae)):∀ (m:Str->Option Ae),x∉bs.map Ar->B bs m x=m x:=by
 induction bs with
 | nil=>intro m h;rw [h0]
 | cons p r ih=>
  intro m hx
  cases p with | mk y v=>?_
  rw [h1,ih _ λq=>hx (.tail _ q)]
  cases hF y (λz=>if z=y then some v else m z) m with
  | inl e=>rw [e];exact if_neg λq:x=y=>hx (q▸.head _)
  | inr e=>rw [e]
theorem yX (h0:∀ m,B [] m=m) (h1:∀ n v r m,B ((n,v)::r) m=B r (F n (λy=>if y=n then some v else m y) m)) (hF:∀ n a b,F n a b=a∨F n a b=b) {x:Str} {v:Ae} (hx:∀ a b,F x a b=a) (bs:List (Str × Ae)):∀ (m:Str->Option Ae),
 (bs.map Ar).Nodup->bs.lookup x=some v->B bs m x=some v:=by
 induction bs with
 | nil=>intro m nd hl;cases hl
 | cons p r ih=>
  intro m nd hl
  have nd:=List.nodup_cons.mp nd
  cases p with | mk y u=>?_
  rw [A7] at hl
  rw [h1]
  by_cases q:x=y
  ·subst q
   rw [beq_self_eq_true] at hl
   rw [act h0 h1 hF r _ nd.1,hx]
   exact (if_pos rfl).trans hl
  ·rw [beq_false_of_ne q] at hl
   exact ih _ nd.2 hl
end
theorem pW {h:Heap} {F:List Addr} {x:Str}:∀ {names:List Str} {vs:List V} {rs:List Ae},bT h F vs rs->∀ {dn:List (Str × V)} {drs:List (Str × Ae)},drs.map (λp=>(p.1,sv p.2))=dn.map (λp=>(p.1,some p.2))->
 ∀ v,(names.zip vs++dn).lookup x=some v->∃ rv,(names.zip rs++drs).lookup x=some rv∧VR h F v rv:=by
 have base:∀ {dn:List (Str × V)} {drs:List (Str × Ae)},drs.map (λp=>(p.1,sv p.2))=dn.map (λp=>(p.1,some p.2))->∀ v,dn.lookup x=some v->∃ rv,drs.lookup x=some rv∧VR h F v rv:=by
  intro dn
  induction dn with
  | nil=>intro _ _ v e;cases e
  | cons p dn ih=>
   intro drs e v hv
   cases drs with
   | nil=>cases e
   | cons r drs=>
    obtain ⟨y,u⟩:=p
    obtain ⟨z,ru⟩:=r
    simp only [A0,List.cons.injEq,Prod.mk.injEq] at e
    show[bS e]
    clear e
    intro q1' e2
    show[bS q1']
    clear q1'
    intro q2' e1
    subst q2'
    rw [A7] at hv ⊢
    cases q:x==z with
    | true=>rw [q] at hv;cases hv;exact ⟨ru,rfl,ajh e1⟩
    | false=>rw [q] at hv;exact ih e2 v hv
 intro names
 induction names with
 | nil=>intro vs rs hv dn drs e v hl;simp only [List.zip_nil_left,GE] at hl ⊢;exact base e v hl
 | cons y names ih=>
  intro vs rs hv dn drs e v hl
  cases hv with
  | nil=>simp only [List.zip_nil_right,GE] at hl ⊢;exact base e v hl
  | cons hx hxs=>
   simp only [List.zip_cons_cons,List.cons_append,A7] at hl ⊢
   cases q:x==y with
   | true=>rw [q] at hl;cases hl;exact ⟨_,rfl,hx⟩
   | false=>rw [q] at hl;exact ih hxs e v hl
theorem St.lessFr {c:Cx} {F:List Addr} {L:ah} {s:Ad} (S:St { c with Fr:=F++c.Fr } L s):St c L s:=by
 refine ⟨S.base,S.stat,S.own,?_,λa ha=>S.lo a ?_,S.gens,λa ha=>S.fr a (Aa _ ha)⟩
 ·have:=S.nd
  rw [show (({ c with Fr:=F++c.Fr }:Cx).Fr++foot (({ c with Fr:=F++c.Fr }:Cx).R++L))=F++(c.Fr++foot (c.R++L)) from Aq ..] at this
  exact (List.nodup_append.mp this).2.1
 ·show a∈(F++c.Fr)++foot (c.R++L)
  rw [Aq];exact Aa _ ha
section
variable {c:Cx} {n:Nat} {env:Env} {m:Loc} {L:ah} {Q:ad} {X:ac}
theorem St.noLimit {s:Ad} (S:St c L s):s.heap.NoLimit:=by
 have:=EI (asc S.stat)
 rw [bL (c2 S.stat)] at this
 exact ⟨_,this.keeps S.base,by kernel_rfl⟩
theorem sO {A B:List Addr} (ha:A.Nodup) (hb:B.Nodup) (h:∀ a∈A,a∉B):(A++B).Nodup:=List.nodup_append.mpr ⟨ha,hb,λa x b y e=>h a x (e▸y)⟩
noncomputable def asi (c:Cx) (L:ah) (s:Ad) (Q:ad) (X:ac) (r:Result) (s':Ad):Prop:=match r with
 | .ok (.ret v)=>cD c L s Q v s'
 | .ok _=>False
 | .error e=>bG c L s X e s'
structure mZ (c:Cx) (n:Nat) (f:Ae) (vs:List V) (L:ah) (Q:ad) (X:ac):Prop where
 go:∀ (A:Around) (s:Ad) (rvs:List Ae),jF n A->bF c A s.heap->St c L s->tK c L s vs rvs->bf (At pw c.w) A (.call f ⟨rvs,[]⟩) (asi c L s Q X) s
theorem mZ.fn {f:Ae} {vs:List V} (h:mZ c n f vs L Q X):ae c n f vs L Q X:=
 ⟨λA s rvs a b d e=>kB (jE (h.go A s rvs a b d e) λr s' hr=>by rcases r with e | (v | _ | _ | _) <;> exact hr)⟩
theorem acu {f:Addr} {fd:Ap} {body:List Stmt} {k:Nat} {names:List Str} {dn:List (Str × V)} {vs:List V} (hf:∀ P,((K0 P).lookup f).map Obj.data=some (.func fd)) (hb:xG fd k names dn) (hv:vs.length=k)
 (hcd:∀ P,codeIn (K0 P) fd.code fd.qualname=true) (hbody:fd.body=.stmts body) (hk:xH fd.scope (names++dn.map Ar)=true) (hnd:kF (names++dn.map Ar)=true)
 (hs:(fd.scope.isCoroutine,fd.scope.isGenerator,fd.scope.kind,fd.globals,fd.builtins)=(false,false,HT,BP,B2)) (hclo:fd.closure=[]) (hcn:kF ((Cp 0 fd.scope.names []).map Ar)=true)
 (h:∀ a:Addr,fD { c with Fr:=(a::(Cp (a+1) fd.scope.names []).map EB)++c.Fr } (Dr fd a f) n (names.zip vs++dn) (Cw body (Dr fd a f)) L (λO L'=>Q .none L') Q (λO O=>False) X):
 mZ c (n+1) (.ref f) vs L Q X:=by
 refine ⟨λA s rs hbud hfr S hvs=>?_⟩
 simp only [Prod.mk.injEq] at hs
 refine e04 hs λhco hgen hkd hgl hbl=>?_
 have hf:=hf c.w.params
 show[an (Option.map_eq_some_iff.mp hf) λof hl hdata=>?_,an (hb.go c.w.params rs (by rw [hvs.len,hv])) λdrs hrun hdn=>?_]
 have hfst:drs.map Ar=dn.map Ar:=by
  have:=congrArg (List.map Ar) hdn
  simpa [Aw,Im] using this
 have hzl:rs.length=names.length:=by rw [hvs.len,hv,hb.len]
 have hzf:(names.zip rs++drs).map Ar=names++dn.map Ar:=by
  rw [AT,hfst,IK (by lia)]
 have hzf':(names.zip vs++dn).map Ar=names++dn.map Ar:=by
  rw [AT,IK (by rw [hb.len,hv];exact AL _)]
 have hnod:((names.zip rs++drs).map Ar).Nodup:=by rw [hzf];exact lP hnd
 have kinds:∀ x∈names++dn.map Ar,fd.scope.names.lookup x=some .local∨(fd.scope.names.lookup x=some .cell∧((Cp (s.heap.objs.size+1) fd.scope.names []).lookup x).isSome=true):=by
  intro x hx
  refine ((I5 _ _).mp (List.all_eq_true.mp hk x hx)).imp eq_of_beq λz=>?_
  have z:=(Al _ _).mp z
  exact ⟨eq_of_beq z.1,(mY x _ _ _ _ _ rfl).trans z.2⟩
 refine kD (by have:=hbud.depth;lia) (S.K _ _ hl) hdata hco hgen hbody (codeRec_of S.K (hcd _)) (ow S.K _ hrun ?_)
 rw [hclo]
 show[Fd hkd (λx hx=>kinds x.1 (by rw [← hzf];exact AN hx)) λenv he s₁ x=>?_,⟨S.noLimit.keeps x.toInCall.keep,zO ?_⟩]
 have he':env=Dr fd s.heap.objs.size f:=he
 subst he'
 generalize hE:Dr fd s.heap.objs.size f=env at x ⊢
 have eL:env.locals=s.heap.objs.size:=by rw [← hE];rfl
 have eC:env.cells=Cp (s.heap.objs.size+1) fd.scope.names []:=by rw [← hE];rfl
 have eK:∀ y,env.kindOf y=fd.scope.names.lookup y:=λy=>by rw [← hE];rfl
 have eS:env.scope=fd.scope:=by rw [← hE];rfl
 have eF:env.frame=some env.locals:=by rw [← hE];rfl
 have eG:env.globals=BP:=by rw [← hE];exact hgl
 have eB:env.builtins=B2:=by rw [← hE];exact hbl
 let F:List Addr:=s.heap.objs.size::(Cp (s.heap.objs.size+1) fd.scope.names []).map EB
 let c':Cx:={ c with Fr:=F++c.Fr }
 have hold:∀ b o,s.heap.get? b=some o->b <s.heap.objs.size:=λb o e=>AZ e
 have newF:∀ a∈F,s.heap.objs.size≤a:=λa ha=>by
  rcases List.mem_cons.mp ha with rfl | ha
  ·exact AL _
  ·refine an (List.mem_map.mp ha) λq1' hp q2'=>?_
   obtain ⟨y,b⟩:=q1'
   subst q2'
   exact DA (eL▸x.above y b (eC▸hp))
 have newN:∀ a∈F,s.heap.get? a=none:=λa ha=>by
  cases q:s.heap.get? a with
  | none=>rfl
  | some o=>exact absurd (hold a o q) (Nat.not_lt.mpr (newF a ha))
 have oldF:∀ a,a∈c.Fr++foot (c.R++L)->∃ o,s.heap.get? a=some o:=λa ha=>by
  rcases List.mem_append.mp ha with ha | ha
  ·refine an (S.fr a ha) λo e O=>?_;exact ⟨o,e⟩
  ·exact S.heap_of ha
 have cn:((Cp (s.heap.objs.size+1) fd.scope.names []).map Ar).Nodup:=by
  rw [rI _ _ 0 _ [] rfl];exact lP hcn
 have ndF:F.Nodup:=by
  refine List.nodup_cons.mpr ⟨λhm=>?_,?_⟩
  ·refine an (List.mem_map.mp hm) λq1' hp e=>?_
   obtain ⟨y,b⟩:=q1'
   have:=x.above y b (eC▸hp)
   have e:b=s.heap.objs.size:=e
   rw [eL,e] at this;exact DK _ this
  ·have:=x.apart
   rw [eC] at this
   unfold List.Nodup
   exact List.pairwise_map.mpr this
 have S₁:St c' L s₁:=by
  have kp:=x.toInCall.keep
  refine e20 x.toInCall.same λh' tk q1'=>?_
  subst q1'
  have Sk:=S.all (t:=tk) kp
  refine ⟨Sk.base,Sk.stat,Sk.own,?_,λa ha=>?_,Sk.gens,λa ha=>?_⟩
  ·show ((F++c.Fr)++foot (c.R++L)).Nodup
   rw [Aq]
   exact sO ndF S.nd λa ha hm=>by refine aE (oldF a hm) λo e=>?_;rw [newN a ha] at e;cases e
  ·have ha:a∈(F++c.Fr)++foot (c.R++L):=ha
   rw [Aq] at ha
   rcases List.mem_append.mp ha with ha | ha
   ·refine ⟨?_,Ai (by decide) (Ai S.big (newF a ha))⟩
    cases q:c.B.get? a with
    | none=>rfl
    | some o=>have:=S.base a o q;rw [newN a ha] at this;cases this
   ·exact S.lo a ha
  ·have ha:a∈F++c.Fr:=ha
   rcases List.mem_append.mp ha with ha | ha
   ·rcases List.mem_cons.mp ha with rfl | ha
    ·show(e32 x.toInCall.ns λo es ep e d O=>?_,⟨o,eL▸e,λvs q=>by rw [d] at q;cases q⟩)
    ·refine an (List.mem_map.mp ha) λq1' hp q2'=>?_
     obtain ⟨y,b⟩:=q1'
     subst q2'
     have hlk:env.cells.lookup y=some b:=by
      rw [eC];exact ko cn hp
     show(an (x.cell y b hlk) λo e d=>?_,⟨o,e,λvs q=>by rw [d] at q;cases q⟩)
   ·exact Sk.fr a ha
 have kp:=x.toInCall.keep
 have VF:bT s₁.heap (foot (c.R++L)) vs rs:=hvs.mono (dN kp)
 have V₁:aA c' s₁.heap (foot (c'.R++L)) env (names.zip vs++dn):=by
  refine ⟨eS▸hkd,eG,eB,⟨_,x.toInCall.ns,λy v e ky=>?_⟩,λy v e ky=>?_,λy a e=>?_,λy z a e1 e2=>?_,?_⟩
  ·show(an (pW VF hdn v e) λrv h1 h2=>?_,⟨rv,?_,h2⟩,yX (B:=bindL env.kindOf) (F:=λn a b=>if env.kindOf n=some .local then a else b) (λm=>rfl) (λn v r m=>rfl) (λn a b=>(Gj (env.kindOf n=some .local)).imp (if_pos ·) (if_neg ·)) (λa b=>if_pos ky) _ _ hnod h1)
  ·refine an (pW VF hdn v e) λrv h1 h2=>?_
   have hy:y∈names++dn.map Ar:=by
    refine an (vn h1) λp hp e=>?_
    rw [← hzf,← e];exact AN hp
   rcases kinds y hy with q | ⟨q,z⟩
   ·rw [eK,q] at ky;rcases ky with ky | ky <;> cases ky
   ·rw [← eC] at z
    refine aE (Option.isSome_iff_exists.mp z) λa ha=>?_
    have hc:=x.cell y a ha
    rw [yX (B:=bindC env.kindOf) (F:=λn a b=>if env.kindOf n=some .local then b else a) (λm=>rfl) (λn v r m=>rfl) (λn a b=>(Gj (env.kindOf n=some .local)).symm.imp (if_neg ·) (if_pos ·)) (λa b=>if_neg λe=>by rw [eK,q] at e;cases e) _ _ hnod h1] at hc
    exact ⟨a,rv,ha,hc,h2⟩
  ·have hm:=mem_of_lookup e
   refine ⟨Ag _ (.tail _ (eC▸AN (f:=EB) hm)),λq=>?_,_,x.cell y a e⟩
   have:=x.above y a hm
   rw [q] at this;exact DK _ this
  ·exact name_of_addr x.apart (mem_of_lookup e1) (mem_of_lookup e2)
  ·rw [eL];exact Ag _ (.head _)
 refine an hfr λl hA hF=>?_
 have hf₁:mP c' (A.deeper env) env s₁.heap:=by
  refine ⟨l,Around.frames_deeper hA,λy hy=>?_⟩
  rcases List.mem_cons.mp hy with rfl | hy
  ·show(e32 x.toInCall.ns λo es ep e d O=>?_,⟨by rw [eS,hkd];decide,_,o,es,ep,eF,V₁.loc,?_,e,d⟩,(S₁.lo _ (Ag _ V₁.loc)).1)
  ·show(e44 ((hF y hy).at_) λf' o es ep a1 b1 c1 d1 g1=>?_,⟨(hF y hy).kind,f',o,es,ep,a1,Aa _ b1,c1,kp _ _ d1,g1⟩)
 have hb₁:jF n (A.deeper env):=⟨hbud.handled,by show A.depth+1+8 * n <_;have:=hbud.depth;lia,by show A.units+3+60 * n <_;have:=hbud.units;lia⟩
 have ownN:∀ b∈ig env,s.heap.get? b=none:=λb hb'=>by
  rcases pQ hb' with rfl | ⟨y,hy⟩
  ·rw [eL];exact aL _
  ·exact newN b (.tail _ (eC▸AN (f:=EB) (mem_of_lookup hy)))
 have lv₁:dX s.heap s₁.heap:=.of λb o e=>⟨o,kp b o e⟩
 have os₁:s₁.os=s.os:=by refine e20 x.toInCall.same λO O q1'=>?_;subst q1';rfl
 have evo:∀ {L':ah} {s':Ad},b8 env L L' s₁ s'->bD (foot L) (foot L') s s':=λ{L' s'} e=>
  ⟨λb o hbo hn=>e.keep b o (kp b o hbo) λhm=>(List.mem_append.mp hm).elim (λq=>by rw [ownN b q] at hbo;cases hbo) hn,lv₁.trans e.live,λb hb'=>by
   rcases e.grow b (Aa _ hb') with q | q
   ·rcases List.mem_append.mp q with q | q
    ·exact .inr (ownN b q)
    ·exact .inl q
   ·exact .inr (lv₁ b q),e.os.trans os₁⟩
 have hh:=h s.heap.objs.size
 rw [hE] at hh
 refine ai (hh (A.deeper env) s₁ hb₁ hf₁ S₁ V₁) (λfl s' g=>?_) λe s' z=>BC z (λO s'' g=>?_) λO O z=>z.elim
 ·cases fl with
  | next=>obtain ⟨m',L',q,S',V',e⟩:=g;exact ⟨.none,L',q,S'.lessFr,.none,evo e⟩
  | cont=>obtain ⟨m',L',q,_⟩:=g;exact q.elim
  | brk=>exact g.elim
  | ret rv=>obtain ⟨v,L',q,S',hv',e⟩:=g;exact ⟨v,L',q,S'.lessFr,hv',evo e⟩
 ·obtain ⟨C,L',q,S',ex,e⟩:=g
  refine ⟨C,L',q,S'.lessFr,ex.base lv₁,⟨λb o hbo hn=>?_,lv₁.trans e.live,λb hb'=>?_,e.os.trans os₁⟩⟩
  ·show[an (e.keep b o (kp b o hbo) λhm=>(List.mem_append.mp hm).elim (λq=>by rw [ownN b q] at hbo;cases hbo) hn) λsl h1 h2=>?_,⟨sl,h1,λhb'=>h2 λhm=>?_⟩]
   have hm:b∈F++c.Fr:=hm
   rcases List.mem_append.mp hm with hm | hm
   ·rw [newN b hm] at hbo;cases hbo
   ·exact hb' hm
  ·rcases e.grow b (Aa _ hb') with q | q
   ·rcases List.mem_append.mp q with q | q
    ·exact .inr (ownN b q)
    ·exact .inl q
   ·exact .inr (lv₁ b q)
end
noncomputable def gl (P:Params) (x:Str):Option Ae:=match (kA P).nsMap BP x with
 | some v=>some v
 | none=>(kA P).nsMap B2 x
noncomputable def cX (P:Params):Ae->Bool
 | .builtin _=>true
 | .type _=>true
 | f=>keepIn (K0 P) f
section
variable {c:Cx} {n:Nat} {env:Env} {m:Loc} {L:ah} {Q:ad} {X:ac}
theorem cY {M:Model} {P:Params} {f:Ae} (hk:cX P f=true) (h:Heap) (X:(K0 P).In h):∃ k,(k=Keeper.frame∨k=Keeper.machine∨k=Ii)∧Dp M h (keeperOf f) k:=by
 cases f with
 | builtin=>exact ⟨.machine,.inr (.inl rfl),Et rfl⟩
 | type=>exact ⟨.machine,.inr (.inl rfl),Et rfl⟩
 | _=>refine keeps_K ?_ h X;exact hk
theorem kG {f:Ae} {first:List Ae} {fv:List V} {args:List Expr} {pos:Pos} {A:Around} {s:Ad} (hc:∀ P,cX P f=true) (hp:(AY pos (Ay args env)).any (·.1)=false)
 (h:cI c n env m (AY pos (Ay args env)) L (λvs L1=>ae c n f (fv++vs) L1 Q X) X) (hb:jF n A) (hf:bF c A s.heap) (S:St c L s) (hV:aA c s.heap (foot (c.R++L)) env m) (hfv:tK c L s fv first):
 av (At pw c.w) A (Do pos f first (AY pos (Ay args env)) []) (cD c L s Q) (bG c L s X) s:=by
 refine eu (P:=λh=>(K0 c.w.params).In h) (by rw [hp];rfl) (λh X=>cY (hc _) h X) (ew hp (ai (h A s hb hf S hV) (λrvs s1 g=>?_) λO O z=>z))
 obtain ⟨vs,L1,k,S1,x1,e1⟩:=g
 refine ⟨S1.K,?_⟩
 have app:∀ {l:List V} {us:List Ae},bT s1.heap (foot (c.R++L1)) l us->bT s1.heap (foot (c.R++L1)) (l++vs) (us++rvs):=by
  intro l
  induction l with
  | nil=>intro us a;cases a;exact x1
  | cons x l ih=>intro us a;cases a with | cons hx hxs=>exact .cons hx (ih hxs)
 exact ai (k.go A s1 _ hb (hf.evo S e1) S1 (app (hfv.mono e1.ext))) (λO O z=>z.after e1) λO O z=>z.after e1
theorem vp {A:Around} {s:Ad} {x:Str} {f:Ae} {E:Ae->Ad->Prop} {P:Ae->Ad->Prop} (hv:gl c.w.params x=some f) (S:St c L s) (V:aA c s.heap (foot (c.R++L)) env m) (w:P f s):AF (At pw c.w) A (loadGlobal env x) P E s:=by
 delta gl at hv
 cases hg:(kA c.w.params).nsMap BP x with
 | some v=>
  rewrite [hg] at hv
  cases show v=f from AH hv
  exact loadGlobal_global (env:=env) (by rw [V.glob];exact S.ns) hg w
 | none=>
  rewrite [hg] at hv
  exact HU (env:=env) (by rw [V.glob];exact S.ns) hg (by rw [V.blt];exact S.nsB) hv w
theorem alb {x:Str} {np pos:Pos} {args:List Expr} {f:Ae} (hk:env.kindOf x=some .globalImplicit) (hv:∀ P,gl P x=some f) (hc:∀ P,cX P f=true)
 (h:cI c n env m (AY pos (Ay args env)) L (λvs L1=>ae c n f vs L1 Q X) X) (hp:(AY pos (Ay args env)).any (·.1)=false) (hd:(x==("__debug__":Str))=false):
 bv c n env m (eval (.Call (.Name x np) args [] pos) env) L Q X:=by
 intro A s hb hf S V
 refine dz (.of (BR V.kind hk ?_ hd))
 have w:=kG (fv:=[]) (first:=[]) hc hp h hb hf S V .nil
 exact vp (hv c.w.params) S V w
structure xh (c:Cx) (n:Nat) (env:Env) (m:Loc) (name:Str) (args:List Expr) (pos:Pos) (v:V) (L:ah) (Q:ad) (X:ac):Prop where
 go:∀ (A:Around) (s:Ad) (r:Ae) (pl:Sem Bool),jF n A->bF c A s.heap->St c L s->aA c s.heap (foot (c.R++L)) env m->mO c L s v r->
  av (At pw c.w) A (DY r name pl) (λfx s₂=>av (At pw c.w) A (Do pos fx.1 fx.2 (AY pos (Ay args env)) []) (cD c L s Q) (bG c L s X) s₂) (bG c L s X) s
theorem alc {o:Expr} {name:Str} {apos pos:Pos} {args:List Expr} {pl:Sem Bool} (h:bv c n env m (eval o env) L (λv L1=>xh c n env m name args pos v L1 Q X) X)
 (he:eval (.Call (.Attribute o name apos) args [] pos) env=(do
  let ov ← eval o env
  DR apos.atName
  let (f,first) ← CW [ov] (DY ov name pl)
  Do pos f first (AY pos (Ay args env)) [])):bv c n env m (eval (.Call (.Attribute o name apos) args [] pos) env) L Q X:=by
 intro A s hb hf S V
 refine lL (pl:=pl) (ai (h A s hb hf S V) (λr1 s1 g1=>?_) λO O z=>z) he
 obtain ⟨v1,L1,k1,S1,x1,e1⟩:=g1
 exact ai (k1.go A s1 r1 pl hb (hf.evo S e1) S1 (V.evo S e1) x1) (λfx s2 z=>ai z (λO O z=>z.after e1) λO O z=>z.after e1) λO O z=>z.after e1
noncomputable def tQ (K:Frag) (C:Addr) (name:Str) (f:Addr):Bool:=
 DH K (.ref C) "__getattribute__"==some (some (.builtin "object.__getattribute__"))&&DH K (.ref C) "__getattr__"==some none&&DH K (.ref C) name==some (some (.ref f))&&typeIn K (.ref f)==some (.type "function")
theorem aor {a C d f:Addr} {fs:List (Str × V)} {name:Str} {args:List Expr} {pos:Pos} (hm:(a,aj.inst C d fs)∈c.R++L) (hf:fs.lookup name=none) (hk:∀ P,tQ (K0 P) C name f=true) (hc:∀ P,keepIn (K0 P) (.ref f)=true)
 (h:cI c n env m (AY pos (Ay args env)) L (λvs L1=>ae c n (.ref f) (.obj a::vs) L1 Q X) X) (hp:(AY pos (Ay args env)).any (·.1)=false):xh c n env m name args pos (.obj a) L Q X:=by
 refine ⟨λA s r pl hb hfr S V x=>?_⟩
 obtain ⟨_,rfl⟩:=x.inv
 refine oq (yV (S.own _ hm)) λes nn I he=>?_
 have z:=pP he nn name
 rw [hf] at z
 have hk:=hk c.w.params
 simp only [tQ,Al,beq_iff_eq] at hk
 show[bS hk]
 clear hk
 intro q1' h4
 show[bS q1']
 clear q1'
 intro q2' h3
 show(bS q2' λh1 h2=>?_,.of (method_fn S.K I h1 h2 h3 h4 (by show (HR name (Ek es nn)).map _=_;rw [z];rfl) ?_),kG (fv:=[.obj a]) (λP=>hc P) hp h hb hfr S V (.cons (.obj a) .nil))
theorem ck {v:V} {T:String} {name:Str} {id:String} {args:List Expr} {pos:Pos} (hT:∀ s r,St c L s->mO c L s v r->s.TypeIs r T∧∀ a,r=.ref a->∃ o,s.heap.get? a=some o∧o.dict=none) (pa:PlainAttrs T) (slot:Slot T name id)
 (hty:FJ (.builtin id)=pure (.type "method_descriptor")) (h:cI c n env m (AY pos (Ay args env)) L (λvs L1=>ae c n (.builtin id) (v::vs) L1 Q X) X) (hp:(AY pos (Ay args env)).any (·.1)=false):
 xh c n env m name args pos v L Q X:=by
 show(⟨λA s r pl hb hfr S V x=>?_⟩,bS (hT s r S x) λh1 h2=>?_,.of (getMethod_builtin h1 pa slot hty h2 (kG (fv:=[v]) (λP=>rfl) hp h hb hfr S V (.cons x .nil))))
theorem St.new {a:Addr} {x:aj} {s:Ad} {h':Heap} {tk:Nat} (S:St c L s) (k:∀ b o,s.heap.get? b=some o->h'.get? b=some o) (fr:∀ b∈aM (a,x),s.heap.objs.size≤b) (nd:(aM (a,x)).Nodup)
 (own:Own c.w h' (foot (c.R++((a,x)::L))) (a,x)):St c ((a,x)::L) { s with heap:=h',toks:=tk }∧bD (foot L) (foot ((a,x)::L)) s { s with heap:=h',toks:=tk }:=by
 have big:=fr
 have fr:∀ b∈aM (a,x),s.heap.get? b=none:=λb hb=>by
  cases q:s.heap.get? b with
  | none=>rfl
  | some o=>exact absurd (AZ q) (Nat.not_lt.mpr (big b hb))
 have ev:bD (foot L) (foot ((a,x)::L)) s { s with heap:=h',toks:=tk }:=⟨.all k,.of λb o e=>⟨o,k b o e⟩,λb hb=>by
  have hb:b∈aM (a,x)++foot L:=hb
  rcases List.mem_append.mp hb with q | q
  ·exact .inr (fr b q)
  ·exact .inl q,rfl⟩
 have old:∀ b∈c.Fr++foot (c.R++L),∃ o,s.heap.get? b=some o:=λb hb=>by
  rcases List.mem_append.mp hb with q | q
  ·refine an (S.fr b q) λo e O=>?_;exact ⟨o,e⟩
  ·exact S.heap_of q
 refine ⟨⟨λb o e=>k b o (S.base b o e),S.stat,λp hp=>?_,?_,λb hb=>?_,S.gens,λb hb=>let ⟨o,e,d⟩:=S.fr b hb;⟨o,k b o e,d⟩⟩,ev⟩
 ·rcases List.mem_append.mp hp with hp | hp
  ·exact (S.own p (Ag _ hp)).mono ev.ext λb O o e=>k b o e
  ·rcases List.mem_cons.mp hp with rfl | hp
   ·exact own
   ·exact (S.own p (Aa _ hp)).mono ev.ext λb O o e=>k b o e
 ·have N:=S.nd
  have hE:foot (c.R++((a,x)::L))=foot c.R++(aM (a,x)++foot L):=by rw [ar];rfl
  rw [hE]
  rw [ar] at N
  have p:(c.Fr++(foot c.R++(aM (a,x)++foot L))).Perm (aM (a,x)++(c.Fr++(foot c.R++foot L))):=by
   have p1:(foot c.R++(aM (a,x)++foot L)).Perm (aM (a,x)++(foot c.R++foot L)):=by
    rw [← Aq,← Aq];exact List.perm_append_comm.append_right _
   show[(p1.append_left c.Fr).trans]
   rw [← Aq c.Fr,← Aq (aM (a,x))];exact List.perm_append_comm.append_right _
  show[p.nodup_iff.mpr (sO nd N λb hb hm=>?_),aE (old b (by rw [ar];exact hm)) λo e=>?_]
  rw [fr b hb] at e;cases e
 ·have hb:b∈c.Fr++foot (c.R++((a,x)::L)):=hb
  rw [ar] at hb
  have:b∈aM (a,x)∨b∈c.Fr++foot (c.R++L):=by
   rw [ar]
   rcases List.mem_append.mp hb with q | q
   ·exact .inr (Ag _ q)
   ·rcases List.mem_append.mp q with q | q
    ·exact .inr (Aa _ (Ag _ q))
    ·have q:b∈aM (a,x)++foot L:=q
     rcases List.mem_append.mp q with q | q
     ·exact .inl q
     ·exact .inr (Aa _ (Aa _ q))
  rcases this with q | q
  ·refine ⟨?_,Ai (by decide) (Ai S.big (big b q))⟩
   cases z:c.B.get? b with
   | none=>rfl
   | some o=>have:=S.base b o z;rw [fr b q] at this;cases this
  ·exact S.lo b q
theorem ald {C fI:Addr} {vs:List V} (hm:∀ P,makesIn (K0 P) C=true) (hi:∀ P,DH (K0 P) (.ref C) "__init__"=some (some (.ref fI))) (ht:∀ P,typeIn (K0 P) (.ref fI)=some (.type "function"))
 (h:∀ x d,mZ c n (.ref fI) (.obj x::vs) ((x,.inst C d [])::L) (λv L'=>v=.none∧Q (.obj x) L') X):ae c (n+1) (.ref C) vs L Q X:=by
 show[⟨λA s rs hb hf S hv=>?_⟩,kB]
 obtain ⟨hh,g,d,t,os⟩:=s
 have SK:(K0 c.w.params).In hh:=S.K
 show[zP (makes_of SK (hm _)) (Gl SK (hi _)) (λself=>bind_fn SK self (ht _)) rfl]
 have k:∀ b o,hh.get? b=some o->((hh.push emptyDict).push (Il C hh.objs.size)).get? b=some o:=λb o e=>Aj _ (Aj _ e)
 have n0:∀ b,hh.objs.size≤b->hh.get? b=none:=λb hb=>by
  cases q:hh.get? b with
  | none=>rfl
  | some o=>exact absurd (AZ q) (Nat.not_lt.mpr hb)
 obtain ⟨S',ev⟩:=S.new (a:=hh.objs.size+1) (x:=.inst C hh.objs.size []) (tk:=t) k (λb hb=>by
  simp only [aM,DN,B5,or_false] at hb
  rcases hb with rfl | rfl
  ·exact Br _
  ·exact AL _) (by simp [aM]) ⟨by heap_get,[],0,by heap_get,.nil⟩
 refine an hf λl hA hF=>?_
 have hb':jF n (A.under (.builtin "type.__call__" ⟨.ref C::rs,[]⟩)):=⟨hb.handled,by show A.depth+1+8 * n <_;have:=hb.depth;lia,by show A.units+1+60 * n <_;have:=hb.units;lia⟩
 have hf':bF c (A.under (.builtin "type.__call__" ⟨.ref C::rs,[]⟩)) ((hh.push emptyDict).push (Il C hh.objs.size)):=by
  refine ⟨l,?_,λe he=>(hF e he).of λb o es ep O ho hd=>⟨o,es,ep,k b o ho,hd⟩⟩
  show pushEnvs [] A.frames=some l
  rw [hA];rfl
 have z:=(h (hh.objs.size+1) hh.objs.size).go _ _ (.ref (hh.objs.size+1)::rs) hb' hf' S' (.cons (.obj _) (hv.mono ev.ext))
 refine jE z λr s' hr=>?_
 rcases r with e | (v | _ | _ | _)
 ·exact hr.after ev
 ·exact hr.elim
 ·exact hr.elim
 ·exact hr.elim
 ·obtain ⟨v',L',⟨rfl,q⟩,S2,hv2,e2⟩:=hr
  cases hv2
  exact ⟨rfl,.obj _,L',q,S2,.obj _,ev.trans e2⟩
end
end Mine
namespace Mine
set_option maxHeartbeats 0
open PySem PySem.W PyProof.Rows PySem.Calls
noncomputable def tR:Stmt->List Stmt
 | .FunctionDef _ _ b _ _ _ _ _ _ _=>b
 | _=>[]
noncomputable abbrev cxF (c:Cx) (fd:Ap) (a:Addr):Cx:={ c with Fr:=(a::(Cp (a+1) fd.scope.names []).map EB)++c.Fr }
noncomputable def zY (k:Nat) (g:Nat->Ae):List Ae:=(CG k).map g
noncomputable def xI (fd:Ap) (k:Nat) (P:Params) (g:Nat->Ae):Option (List (Str × Ae) × List (Str × Option V)):=(pV (K0 P) 12 (bindArgs fd ⟨zY k g,[]⟩)).map λl=>(l.take k,(l.drop k).map λp=>(p.1,sv p.2))
theorem ag2 {rs:List Ae} {k:Nat} (h:rs.length=k):zY k (λi=>rs.getD i .none)=rs:=by
 subst h
 refine C2 (by rw [zY,Af,Ba]) λi h1 h2=>?_
 rw [List.getElem_of_eq rfl]
 simp [zY,h2]
theorem acv {fd:Ap} {k:Nat} {ns:List Str} {dn:List (Str × V)} (hl:ns.length=k) (h:∀ P g,xI fd k P g=some (ns.zip (zY k g),dn.map λp=>(p.1,some p.2))):xG fd k ns dn:=by
 refine ⟨λP rs hk=>?_,hl⟩
 have e:=h P λi=>rs.getD i .none
 unfold xI at e
 rw [ag2 hk] at e
 refine an (Option.map_eq_some_iff.mp e) λl e1 e2=>?_
 have e3:=Cd e2
 exact ⟨l.drop k,by rw [e1,← e3.1,Bg],e3.2⟩
noncomputable abbrev asj (c:Cx) (n:Nat) (L:ah) (Q:ad) (X:ac) (fd:Ap) (f:Nat) (p:List Nat) (m:Loc):Prop:=∀ a:Addr,fD (cxF c fd a) (Dr fd a f) n m (Cw (tR (zI p)) (Dr fd a f)) L (λO L'=>Q .none L') Q (λO O=>False) X
noncomputable abbrev af (c:Cx) (n:Nat) (L:ah) (Q:ad) (X:ac) (fd:Ap) (f:Nat) (p:List Nat) (ns:List Str) (dn:List (Str × V)) (vs:List V):Prop:=asj c n L Q X fd f p (ns.zip vs++dn)->mZ c (n+1) (.ref f) vs L Q X
noncomputable def acw:Type:=Option Data × Bool × FuncBody × Bool × Bool × (Bool × Bool × ScopeKind × Addr × Addr) × List (Str × Addr) × Bool × Option (List (Str × Ae) × List (Str × Option V))
noncomputable def ale (fd:Ap) (f:Nat) (ns:List Str) (dn:List (Str × V)) (P:Params) (g:Nat->Ae):acw:=
 (((K0 P).lookup f).map Obj.data,codeIn (K0 P) fd.code fd.qualname,fd.body,xH fd.scope (ns++dn.map Ar),kF (ns++dn.map Ar),(fd.scope.isCoroutine,fd.scope.isGenerator,fd.scope.kind,fd.globals,fd.builtins),fd.closure,kF ((Cp 0 fd.scope.names []).map Ar),xI fd ns.length P g)
noncomputable def alf (fd:Ap) (p:List Nat) (ns:List Str) (dn:List (Str × V)) (g:Nat->Ae):acw:=
 (some (.func fd),true,.stmts (tR (zI p)),true,true,(false,false,HT,BP,B2),[],true,some (ns.zip (zY ns.length g),dn.map λp=>(p.1,some p.2)))
section
variable {c:Cx} {n:Nat} {L:ah} {Q:ad} {X:ac}
theorem bg {f:Addr} {fd:Ap} {p:List Nat} {ns:List Str} {dn:List (Str × V)} {vs:List V} (hv:vs.length=ns.length) (hE:∀ P g,ale fd f ns dn P g=alf fd p ns dn g):af c n L Q X fd f p ns dn vs:=λh=>by
 have e:=λP g=>Cd (show (_,_)=(_,_) from hE P g)
 have e2:=λP g=>Cd (e P g).2
 have e3:=λP g=>Cd (e2 P g).2
 have e4:=λP g=>Cd (e3 P g).2
 have e5:=λP g=>Cd (e4 P g).2
 have e6:=λP g=>Cd (e5 P g).2
 have e7:=λP g=>Cd (e6 P g).2
 have e8:=λP g=>Cd (e7 P g).2
 let g:Nat->Ae:=λO=>.none
 let P:=c.w.params
 exact acu (λP=>(e P g).1) (acv rfl λP g=>(e8 P g).2) hv (λP=>(e2 P g).1) (e3 P g).1 (e4 P g).1 (e5 P g).1 (e6 P g).1 (e7 P g).1 (e8 P g).1 h
noncomputable def az:Ap:=bi [2,0] "PoolFault.__init__" .none "treepool.faults" 194 34
noncomputable def ag3:Ap:=bi [15] "made" .none "treepool.replays" 401 179
theorem fJ {v0 v1:V}:af c n L Q X ag3 180 [15] ["files","record"] [] [v0,v1]:=bg rfl λP g=>by kernel_rfl
noncomputable def ag4:Ap:=bi [16] "done" .none "treepool.replays" 401 186
theorem sP {v0 v1:V}:af c n L Q X ag4 187 [16] ["files","record"] [] [v0,v1]:=bg rfl λP g=>by kernel_rfl
noncomputable def vq:Ap:=bi [17] "replayed" .none "treepool.replays" 401 193
theorem rJ {v0 v1 v2:V}:af c n L Q X vq 194 [17] ["files","rows","seq"] [] [v0,v1,v2]:=bg rfl λP g=>by kernel_rfl
noncomputable def tS:Ap:=bi [19] "number_of" .none "treepool.octets" 434 198
theorem pX {v0:V}:af c n L Q X tS 199 [19] ["octets"] [] [v0]:=bg rfl λP g=>by kernel_rfl
noncomputable def tU:Ap:=bi [20] "octets_of" .none "treepool.octets" 434 203
theorem pY {v0 v1:V}:af c n L Q X tU 204 [20] ["number","size"] [] [v0,v1]:=bg rfl λP g=>by kernel_rfl
noncomputable def pZ:Ap:=bi [21] "text_octets" .none "treepool.octets" 434 208
theorem m6 {v0:V}:af c n L Q X pZ 209 [21] ["text"] [] [v0]:=bg rfl λP g=>by kernel_rfl
noncomputable def p0:Ap:=bi [22] "octets_text" .none "treepool.octets" 434 213
theorem m7 {v0:V}:af c n L Q X p0 214 [22] ["octets"] [] [v0]:=bg rfl λP g=>by kernel_rfl
noncomputable def tV:Ap:=bi [23,0] "Sink.__init__" .none "treepool.octets" 434 227
theorem p5 {v0:V}:af c n L Q X tV 228 [23,0] ["self"] [] [v0]:=bg rfl λP g=>by kernel_rfl
noncomputable def p7:Ap:=bi [23,1] "Sink.number" .none "treepool.octets" 434 234
theorem m8 {v0 v1 v2:V}:af c n L Q X p7 235 [23,1] ["self","number","size"] [] [v0,v1,v2]:=bg rfl λP g=>by kernel_rfl
noncomputable def tW:Ap:=bi [23,3] "Sink.text" .none "treepool.octets" 434 248
theorem p8 {v0 v1:V}:af c n L Q X tW 249 [23,3] ["self","text"] [] [v0,v1]:=bg rfl λP g=>by kernel_rfl
noncomputable def rK:Ap:=bi [23,4] "Sink.whole" .none "treepool.octets" 434 255
theorem oF {v0:V}:af c n L Q X rK 256 [23,4] ["self"] [] [v0]:=bg rfl λP g=>by kernel_rfl
noncomputable def iI:Ap:=bi [24,0] "Cursor.__init__" (.ref 271) "treepool.octets" 434 277
theorem m9 {v0 v1:V}:af c n L Q X iI 278 [24,0] ["self","octets"] [("at",V.int 0)] [v0,v1]:=bg rfl λP g=>by kernel_rfl
theorem kH {v0 v1 v2:V}:af c n L Q X iI 278 [24,0] ["self","octets","at"] [] [v0,v1,v2]:=bg rfl λP g=>by kernel_rfl
noncomputable def p9:Ap:=bi [24,1] "Cursor.left" .none "treepool.octets" 434 284
theorem na {v0:V}:af c n L Q X p9 285 [24,1] ["self"] [] [v0]:=bg rfl λP g=>by kernel_rfl
noncomputable def iJ:Ap:=bi [24,2] "Cursor.take" .none "treepool.octets" 434 291
theorem nc {v0 v1:V}:af c n L Q X iJ 292 [24,2] ["self","many"] [] [v0,v1]:=bg rfl λP g=>by kernel_rfl
noncomputable def nh:Ap:=bi [24,3] "Cursor.number" .none "treepool.octets" 434 298
theorem kI {v0 v1:V}:af c n L Q X nh 299 [24,3] ["self","size"] [] [v0,v1]:=bg rfl λP g=>by kernel_rfl
noncomputable def qa:Ap:=bi [24,4] "Cursor.text" .none "treepool.octets" 434 305
theorem nq {v0:V}:af c n L Q X qa 306 [24,4] ["self"] [] [v0]:=bg rfl λP g=>by kernel_rfl
noncomputable def zZ:Ap:=bi [25] "padded" .none "treepool.octets" 434 319
theorem vr {v0 v1:V}:af c n L Q X zZ 320 [25] ["octets","size"] [] [v0,v1]:=bg rfl λP g=>by kernel_rfl
noncomputable def xJ:Ap:=bi [30] "salt_of" .none "treepool.zaphash" 592 340
theorem tX {v0:V}:af c n L Q X xJ 341 [30] ["number"] [] [v0]:=bg rfl λP g=>by kernel_rfl
noncomputable def vt:Ap:=bi [44] "want_row" .none "treepool.zapform" 621 347
theorem rL {v0 v1:V}:af c n L Q X vt 348 [44] ["name","number"] [] [v0,v1]:=bg rfl λP g=>by kernel_rfl
noncomputable def oG:Ap:=bi [45] "micro_octets" .none "treepool.zapform" 621 354
theorem lQ {v0 v1 v2:V}:af c n L Q X oG 355 [45] ["salt","rows","size"] [] [v0,v1,v2]:=bg rfl λP g=>by kernel_rfl
noncomputable def rM:Ap:=bi [46] "micro_rows" .none "treepool.zapform" 621 361
theorem oH {v0:V}:af c n L Q X rM 362 [46] ["octets"] [] [v0]:=bg rfl λP g=>by kernel_rfl
noncomputable def xK:Ap:=bi [49] "sort_of" .none "treepool.zapform" 621 403
theorem tY {v0:V}:af c n L Q X xK 404 [49] ["octets"] [] [v0]:=bg rfl λP g=>by kernel_rfl
noncomputable def qb:Ap:=bi [57] "first_block" .none "treepool.zapread" 804 450
theorem nr {v0 v1:V}:af c n L Q X qb 451 [57] ["view","object_now"] [] [v0,v1]:=bg rfl λP g=>by kernel_rfl
noncomputable def vw:Ap:=bi [61] "zap_find" .none "treepool.zapread" 804 474
theorem rN {v0 v1 v2:V}:af c n L Q X vw 475 [61] ["view","object_now","name"] [] [v0,v1,v2]:=bg rfl λP g=>by kernel_rfl
noncomputable def xL:Ap:=bi [62] "zap_all" .none "treepool.zapread" 804 481
theorem tZ {v0 v1:V}:af c n L Q X xL 482 [62] ["view","object_now"] [] [v0,v1]:=bg rfl λP g=>by kernel_rfl
noncomputable def rO:Ap:=bi [64,0] "Shape.__init__" (.ref 490) "treepool.shape" 859 496
theorem oI {v0 v1 v2 v3 v4 v5 v6 v7 v8 v9 v10 v11:V}:af c n L Q X rO 497 [64,0] ["self","sector","slab","record","fan","dnodes","ring","defer","most_record","uber","config","zap"] [] [v0,v1,v2,v3,v4,v5,v6,v7,v8,v9,v10,v11]:=bg rfl λP g=>by kernel_rfl
noncomputable def xM:Ap:=bi [68] "new_zap" .none "treepool.zaps" 929 517
theorem lR {v0 v1:V}:af c n L Q X xM 518 [68] ["objset","kind"] [] [v0,v1]:=bg rfl λP g=>by kernel_rfl
noncomputable def xN:Ap:=bi [69] "zap_put" .none "treepool.zaps" 929 522
theorem t5 {v0 v1 v2 v3:V}:af c n L Q X xN 523 [69] ["objset","object_now","name","number"] [] [v0,v1,v2,v3]:=bg rfl λP g=>by kernel_rfl
noncomputable def vx:Ap:=bi [70] "zap_take" .none "treepool.zaps" 929 527
theorem rP {v0 v1 v2:V}:af c n L Q X vx 528 [70] ["objset","object_now","name"] [] [v0,v1,v2]:=bg rfl λP g=>by kernel_rfl
noncomputable def nu:Ap:=bi [81] "is_entry_name" .none "treepool.names" 1020 575
theorem kJ {v0:V}:af c n L Q X nu 576 [81] ["name"] [] [v0]:=bg rfl λP g=>by kernel_rfl
noncomputable def kK:Ap:=bi [82] "want_entry_name" .none "treepool.names" 1020 582
theorem iK {v0:V}:af c n L Q X kK 583 [82] ["name"] [] [v0]:=bg rfl λP g=>by kernel_rfl
noncomputable def xO:Ap:=bi [83] "look_up" .none "treepool.names" 1020 589
theorem t6 {v0 v1 v2:V}:af c n L Q X xO 590 [83] ["view","folder","name"] [] [v0,v1,v2]:=bg rfl λP g=>by kernel_rfl
noncomputable def t7:Ap:=bi [84] "put_entry" .none "treepool.names" 1020 596
theorem qc {v0 v1 v2 v3 v4:V}:af c n L Q X t7 597 [84] ["objset","folder","name","number","sort"] [] [v0,v1,v2,v3,v4]:=bg rfl λP g=>by kernel_rfl
noncomputable def rQ:Ap:=bi [85] "take_entry" .none "treepool.names" 1020 603
theorem oJ {v0 v1 v2:V}:af c n L Q X rQ 604 [85] ["objset","folder","name"] [] [v0,v1,v2]:=bg rfl λP g=>by kernel_rfl
noncomputable def xP:Ap:=bi [86] "entries" .none "treepool.names" 1020 608
theorem t8 {v0 v1:V}:af c n L Q X xP 609 [86] ["view","folder"] [] [v0,v1]:=bg rfl λP g=>by kernel_rfl
noncomputable def vy:Ap:=bi [87] "is_empty" .none "treepool.names" 1020 615
theorem rR {v0 v1:V}:af c n L Q X vy 616 [87] ["view","folder"] [] [v0,v1]:=bg rfl λP g=>by kernel_rfl
noncomputable def rS:Ap:=bi [93,0] "Znode.__init__" .none "treepool.znodes" 1084 629
theorem oK {v0 v1 v2 v3 v4 v5 v6 v7:V}:af c n L Q X rS 630 [93,0] ["self","sort","mode","size","links","parent","made","changed"] [] [v0,v1,v2,v3,v4,v5,v6,v7]:=bg rfl λP g=>by kernel_rfl
noncomputable def oL:Ap:=bi [94] "znode_octets" .none "treepool.znodes" 1084 650
theorem lS {v0:V}:af c n L Q X oL 651 [94] ["znode"] [] [v0]:=bg rfl λP g=>by kernel_rfl
noncomputable def vz:Ap:=bi [95] "znode_of" .none "treepool.znodes" 1084 657
theorem rT {v0:V}:af c n L Q X vz 658 [95] ["octets"] [] [v0]:=bg rfl λP g=>by kernel_rfl
noncomputable def rU:Ap:=bi [96] "load_znode" .none "treepool.znodes" 1084 664
theorem oM {v0 v1:V}:af c n L Q X rU 665 [96] ["view","number"] [] [v0,v1]:=bg rfl λP g=>by kernel_rfl
noncomputable def qd:Ap:=bi [97] "store_znode" .none "treepool.znodes" 1084 671
theorem nv {v0 v1 v2:V}:af c n L Q X qd 672 [97] ["objset","number","znode"] [] [v0,v1,v2]:=bg rfl λP g=>by kernel_rfl
noncomputable def rV:Ap:=bi [100] "parts_of" .none "treepool.pathwalk" 1194 676
theorem oN {v0:V}:af c n L Q X rV 677 [100] ["path"] [] [v0]:=bg rfl λP g=>by kernel_rfl
noncomputable def qe:Ap:=bi [102] "link_target" .none "treepool.pathwalk" 1194 681
theorem nw {v0 v1:V}:af c n L Q X qe 682 [102] ["view","number"] [] [v0,v1]:=bg rfl λP g=>by kernel_rfl
noncomputable def qf:Ap:=bi [103] "want_folder" .none "treepool.pathwalk" 1194 688
theorem ny {v0 v1 v2:V}:af c n L Q X qf 689 [103] ["view","number","path"] [] [v0,v1,v2]:=bg rfl λP g=>by kernel_rfl
noncomputable def vA:Ap:=bi [104] "start_of" .none "treepool.pathwalk" 1194 695
theorem rW {v0 v1 v2:V}:af c n L Q X vA 696 [104] ["root","here","path"] [] [v0,v1,v2]:=bg rfl λP g=>by kernel_rfl
noncomputable def z6:Ap:=bi [105] "walked" .none "treepool.pathwalk" 1194 702
theorem vB {v0 v1 v2 v3:V}:af c n L Q X z6 703 [105] ["view","root","path","follows"] [] [v0,v1,v2,v3]:=bg rfl λP g=>by kernel_rfl
noncomputable def vC:Ap:=bi [106] "ahead_of" .none "treepool.pathwalk" 1194 709
theorem rX {v0 v1 v2:V}:af c n L Q X vC 710 [106] ["view","root","path"] [] [v0,v1,v2]:=bg rfl λP g=>by kernel_rfl
noncomputable def nz:Ap:=bi [111,0] "FileView.__init__" .none "treepool.fileread" 1266 730
theorem kL {v0 v1:V}:af c n L Q X nz 731 [111,0] ["self","view"] [] [v0,v1]:=bg rfl λP g=>by kernel_rfl
noncomputable def fK:Ap:=bi [111,1] "FileView.find" (.ref 732) "treepool.fileread" 1266 738
theorem kO {v0 v1:V}:af c n L Q X fK 739 [111,1] ["self","path"] [("follows",V.bool true)] [v0,v1]:=bg rfl λP g=>by kernel_rfl
theorem iL {v0 v1 v2:V}:af c n L Q X fK 739 [111,1] ["self","path","follows"] [] [v0,v1,v2]:=bg rfl λP g=>by kernel_rfl
noncomputable def kP:Ap:=bi [111,3] "FileView.octets" .none "treepool.fileread" 1266 753
theorem iM {v0 v1 v2 v3:V}:af c n L Q X kP 754 [111,3] ["self","number","at","many"] [] [v0,v1,v2,v3]:=bg rfl λP g=>by kernel_rfl
noncomputable def cZ:Ap:=bi [111,7] "FileView.below" .none "treepool.fileread" 1266 779
theorem dU {v0 v1 v2 v3:V}:af c n L Q X cZ 780 [111,7] ["self","path","number","parent"] [] [v0,v1,v2,v3]:=bg rfl λP g=>by kernel_rfl
noncomputable def ii:Ap:=bi [111,8] "FileView.all_paths" .none "treepool.fileread" 1266 786
theorem fL {v0:V}:af c n L Q X ii 787 [111,8] ["self"] [] [v0]:=bg rfl λP g=>by kernel_rfl
noncomputable def cq:Ap:=bi [111,9] "FileView.contents" .none "treepool.fileread" 1266 793
theorem gy {v0:V}:af c n L Q X cq 794 [111,9] ["self"] [] [v0]:=bg rfl λP g=>by kernel_rfl
noncomputable def ua:Ap:=bi [129] "make_tree" .none "treepool.files" 1417 807
theorem qg {v0 v1:V}:af c n L Q X ua 808 [129] ["objset","now"] [] [v0,v1]:=bg rfl λP g=>by kernel_rfl
noncomputable def nA:Ap:=bi [130,0] "FileTree.__init__" .none "treepool.files" 1417 821
theorem kQ {v0 v1 v2:V}:af c n L Q X nA 822 [130,0] ["self","objset","now"] [] [v0,v1,v2]:=bg rfl λP g=>by kernel_rfl
noncomputable def ez:Ap:=bi [130,1] "FileTree.change" (.ref 823) "treepool.files" 1417 829
theorem iN {v0 v1 v2:V}:af c n L Q X ez 830 [130,1] ["self","number","links"] [("size",V.none)] [v0,v1,v2]:=bg rfl λP g=>by kernel_rfl
theorem gz {v0 v1 v2 v3:V}:af c n L Q X ez 830 [130,1] ["self","number","links","size"] [] [v0,v1,v2,v3]:=bg rfl λP g=>by kernel_rfl
noncomputable def ij:Ap:=bi [130,2] "FileTree.place_for" .none "treepool.files" 1417 836
theorem fM {v0 v1:V}:af c n L Q X ij 837 [130,2] ["self","path"] [] [v0,v1]:=bg rfl λP g=>by kernel_rfl
noncomputable def il:Ap:=bi [130,3] "FileTree.want_mode" .none "treepool.files" 1417 843
theorem fN {v0 v1:V}:af c n L Q X il 844 [130,3] ["self","mode"] [] [v0,v1]:=bg rfl λP g=>by kernel_rfl
noncomputable def iO:Ap:=bi [130,4] "FileTree.add_file" .none "treepool.files" 1417 850
theorem gA {v0 v1 v2 v3:V}:af c n L Q X iO 851 [130,4] ["self","path","sort","mode"] [] [v0,v1,v2,v3]:=bg rfl λP g=>by kernel_rfl
noncomputable def kR:Ap:=bi [130,5] "FileTree.create" .none "treepool.files" 1417 857
theorem iP {v0 v1 v2:V}:af c n L Q X kR 858 [130,5] ["self","path","mode"] [] [v0,v1,v2]:=bg rfl λP g=>by kernel_rfl
noncomputable def iQ:Ap:=bi [130,6] "FileTree.make_dir" .none "treepool.files" 1417 864
theorem gB {v0 v1 v2:V}:af c n L Q X iQ 865 [130,6] ["self","path","mode"] [] [v0,v1,v2]:=bg rfl λP g=>by kernel_rfl
noncomputable def jW:Ap:=bi [130,7] "FileTree.symlink" .none "treepool.files" 1417 871
theorem im {v0 v1 v2:V}:af c n L Q X jW 872 [130,7] ["self","path","target"] [] [v0,v1,v2]:=bg rfl λP g=>by kernel_rfl
noncomputable def nB:Ap:=bi [130,8] "FileTree.link" .none "treepool.files" 1417 878
theorem kS {v0 v1 v2:V}:af c n L Q X nB 879 [130,8] ["self","path","other"] [] [v0,v1,v2]:=bg rfl λP g=>by kernel_rfl
noncomputable def jX:Ap:=bi [130,9] "FileTree.file_at" .none "treepool.files" 1417 885
theorem ip {v0 v1:V}:af c n L Q X jX 886 [130,9] ["self","path"] [] [v0,v1]:=bg rfl λP g=>by kernel_rfl
noncomputable def lT:Ap:=bi [130,10] "FileTree.write" .none "treepool.files" 1417 892
theorem jY {v0 v1 v2 v3:V}:af c n L Q X lT 893 [130,10] ["self","path","at","octets"] [] [v0,v1,v2,v3]:=bg rfl λP g=>by kernel_rfl
noncomputable def iS:Ap:=bi [130,11] "FileTree.truncate" .none "treepool.files" 1417 899
theorem gC {v0 v1 v2:V}:af c n L Q X iS 900 [130,11] ["self","path","size"] [] [v0,v1,v2]:=bg rfl λP g=>by kernel_rfl
noncomputable def iT:Ap:=bi [130,12] "FileTree.set_mode" .none "treepool.files" 1417 906
theorem gD {v0 v1 v2:V}:af c n L Q X iT 907 [130,12] ["self","path","mode"] [] [v0,v1,v2]:=bg rfl λP g=>by kernel_rfl
noncomputable def iq:Ap:=bi [130,13] "FileTree.drop_name" .none "treepool.files" 1417 913
theorem fO {v0 v1:V}:af c n L Q X iq 914 [130,13] ["self","number"] [] [v0,v1]:=bg rfl λP g=>by kernel_rfl
noncomputable def kU:Ap:=bi [130,14] "FileTree.remove" .none "treepool.files" 1417 920
theorem iU {v0 v1:V}:af c n L Q X kU 921 [130,14] ["self","path"] [] [v0,v1]:=bg rfl λP g=>by kernel_rfl
noncomputable def gE:Ap:=bi [130,15] "FileTree.remove_dir" .none "treepool.files" 1417 927
theorem fj {v0 v1:V}:af c n L Q X gE 928 [130,15] ["self","path"] [] [v0,v1]:=bg rfl λP g=>by kernel_rfl
noncomputable def ir:Ap:=bi [130,16] "FileTree.make_room" .none "treepool.files" 1417 934
theorem fQ {v0 v1 v2:V}:af c n L Q X ir 935 [130,16] ["self","path","sort"] [] [v0,v1,v2]:=bg rfl λP g=>by kernel_rfl
noncomputable def kV:Ap:=bi [130,17] "FileTree.rename" .none "treepool.files" 1417 941
theorem iV {v0 v1 v2:V}:af c n L Q X kV 942 [130,17] ["self","path","other"] [] [v0,v1,v2]:=bg rfl λP g=>by kernel_rfl
noncomputable def lU:Ap:=bi [130,18] "FileTree.moved" .none "treepool.files" 1417 948
theorem jZ {v0 v1 v2 v3:V}:af c n L Q X lU 949 [130,18] ["self","number","folder","goal"] [] [v0,v1,v2,v3]:=bg rfl λP g=>by kernel_rfl
noncomputable def uc:Ap:=bi [146,0] "Heap.__init__" (.ref 1076) "treepool.heap" 1867 1082
theorem qh {v0:V}:af c n L Q X uc 1083 [146,0] ["self"] [("sector",V.int 16)] [v0]:=bg rfl λP g=>by kernel_rfl
noncomputable def fk:Ap:=bi [151,0] "Dnode.__init__" (.ref 1144) "treepool.dnodes" 1959 1150
theorem oO {v0 v1 v2:V}:af c n L Q X fk 1151 [151,0] ["self","kind","block"] [("levels",V.int 1),("most",V.int (-1)),("bonus",V.bytes []),("pointer",V.none),("used",V.int 0)] [v0,v1,v2]:=bg rfl λP g=>by kernel_rfl
theorem lV {v0 v1 v2 v3 v4 v5:V}:af c n L Q X fk 1151 [151,0] ["self","kind","block","levels","most","bonus"] [("pointer",V.none),("used",V.int 0)] [v0,v1,v2,v3,v4,v5]:=bg rfl λP g=>by kernel_rfl
theorem lW {v0 v1 v2 v3 v4 v5 v6 v7:V}:af c n L Q X fk 1151 [151,0] ["self","kind","block","levels","most","bonus","pointer","used"] [] [v0,v1,v2,v3,v4,v5,v6,v7]:=bg rfl λP g=>by kernel_rfl
noncomputable def rY:Ap:=bi [151,1] "Dnode.copy" .none "treepool.dnodes" 1959 1157
theorem oP {v0:V}:af c n L Q X rY 1158 [151,1] ["self"] [] [v0]:=bg rfl λP g=>by kernel_rfl
noncomputable def qi:Ap:=bi [157] "most_blocks" .none "treepool.trees" 2065 1199
theorem nD {v0:V}:af c n L Q X qi 1200 [157] ["fan"] [] [v0]:=bg rfl λP g=>by kernel_rfl
noncomputable def oQ:Ap:=bi [172,0] "SetHead.__init__" (.ref 1331) "treepool.setview" 2283 1337
theorem lX {v0 v1 v2:V}:af c n L Q X oQ 1338 [172,0] ["self","meta","sort"] [("log",V.none),("words",V.obj 1330)] [v0,v1,v2]:=bg rfl λP g=>by kernel_rfl
noncomputable def qj:Ap:=bi [175] "parts_of" .none "treepool.setview" 2283 1370
theorem nE {v0 v1 v2:V}:af c n L Q X qj 1371 [175] ["at","many","block"] [] [v0,v1,v2]:=bg rfl λP g=>by kernel_rfl
noncomputable def qk:Ap:=bi [180,0] "Change.__init__" .none "treepool.objsets" 2490 1470
theorem nF {v0 v1 v2:V}:af c n L Q X qk 1471 [180,0] ["self","dnode","is_new"] [] [v0,v1,v2]:=bg rfl λP g=>by kernel_rfl
noncomputable def ql:Ap:=bi [180,1] "Change.told" .none "treepool.objsets" 2490 1477
theorem nG {v0:V}:af c n L Q X ql 1478 [180,1] ["self"] [] [v0]:=bg rfl λP g=>by kernel_rfl
noncomputable def lY:Ap:=bi [181,0] "ObjectSet.__init__" (.ref 1493) "treepool.objsets" 2490 1499
theorem kc {v0 v1 v2:V}:af c n L Q X lY 1500 [181,0] ["self","io","shape"] [("pointer",V.none),("sort",V.int 0)] [v0,v1,v2]:=bg rfl λP g=>by kernel_rfl
noncomputable def iu:Ap:=bi [181,1] "ObjectSet.is_there" .none "treepool.objsets" 2490 1506
theorem fR {v0 v1:V}:af c n L Q X iu 1507 [181,1] ["self","number"] [] [v0,v1]:=bg rfl λP g=>by kernel_rfl
noncomputable def iW:Ap:=bi [181,2] "ObjectSet.objects" .none "treepool.objsets" 2490 1511
theorem gF {v0:V}:af c n L Q X iW 1512 [181,2] ["self"] [] [v0]:=bg rfl λP g=>by kernel_rfl
noncomputable def kW:Ap:=bi [181,3] "ObjectSet.dnode" .none "treepool.objsets" 2490 1518
theorem iX {v0 v1:V}:af c n L Q X kW 1519 [181,3] ["self","number"] [] [v0,v1]:=bg rfl λP g=>by kernel_rfl
noncomputable def iw:Ap:=bi [181,5] "ObjectSet.block_of" .none "treepool.objsets" 2490 1532
theorem fS {v0 v1 v2 v3:V}:af c n L Q X iw 1533 [181,5] ["self","number","change","place"] [] [v0,v1,v2,v3]:=bg rfl λP g=>by kernel_rfl
noncomputable def lZ:Ap:=bi [181,6] "ObjectSet.read" .none "treepool.objsets" 2490 1537
theorem ke {v0 v1 v2 v3:V}:af c n L Q X lZ 1538 [181,6] ["self","number","at","many"] [] [v0,v1,v2,v3]:=bg rfl λP g=>by kernel_rfl
noncomputable def iY:Ap:=bi [181,8] "ObjectSet.changed" .none "treepool.objsets" 2490 1551
theorem gG {v0 v1:V}:af c n L Q X iY 1552 [181,8] ["self","number"] [] [v0,v1]:=bg rfl λP g=>by kernel_rfl
noncomputable def fT:Ap:=bi [181,9] "ObjectSet.add" (.ref 1553) "treepool.objsets" 2490 1559
theorem eD {v0 v1 v2:V}:af c n L Q X fT 1560 [181,9] ["self","kind","block"] [("bonus",V.bytes [])] [v0,v1,v2]:=bg rfl λP g=>by kernel_rfl
theorem iZ {v0 v1 v2 v3:V}:af c n L Q X fT 1560 [181,9] ["self","kind","block","bonus"] [] [v0,v1,v2,v3]:=bg rfl λP g=>by kernel_rfl
noncomputable def ix:Ap:=bi [181,10] "ObjectSet.greatest" .none "treepool.objsets" 2490 1566
theorem cS {v0:V}:af c n L Q X ix 1567 [181,10] ["self"] [] [v0]:=bg rfl λP g=>by kernel_rfl
noncomputable def kh:Ap:=bi [181,11] "ObjectSet.add_at" (.ref 1568) "treepool.objsets" 2490 1574
theorem iy {v0 v1 v2 v3 v4:V}:af c n L Q X kh 1575 [181,11] ["self","number","kind","block","bonus"] [] [v0,v1,v2,v3,v4]:=bg rfl λP g=>by kernel_rfl
noncomputable def l0:Ap:=bi [181,12] "ObjectSet.drop" .none "treepool.objsets" 2490 1581
theorem ki {v0 v1:V}:af c n L Q X l0 1582 [181,12] ["self","number"] [] [v0,v1]:=bg rfl λP g=>by kernel_rfl
noncomputable def gH:Ap:=bi [181,13] "ObjectSet.set_bonus" .none "treepool.objsets" 2490 1588
theorem fm {v0 v1 v2:V}:af c n L Q X gH 1589 [181,13] ["self","number","bonus"] [] [v0,v1,v2]:=bg rfl λP g=>by kernel_rfl
noncomputable def kX:Ap:=bi [181,14] "ObjectSet.write" .none "treepool.objsets" 2490 1595
theorem i7 {v0 v1 v2 v3:V}:af c n L Q X kX 1596 [181,14] ["self","number","at","octets"] [] [v0,v1,v2,v3]:=bg rfl λP g=>by kernel_rfl
noncomputable def nH:Ap:=bi [181,15] "ObjectSet.cut" .none "treepool.objsets" 2490 1600
theorem kY {v0 v1 v2:V}:af c n L Q X nH 1601 [181,15] ["self","number","at"] [] [v0,v1,v2]:=bg rfl λP g=>by kernel_rfl
noncomputable def dD:Ap:=bi [183] "_law_record" .none "law_np0227_01" 2775 1647
theorem oR {v0 v1 v2:V}:af c n L Q X dD 1648 [183] ["way","x","y"] [] [v0,v1,v2]:=bg rfl λP g=>by kernel_rfl
noncomputable def vD:Ap:=bi [184] "_law_goal" .none "law_np0227_01" 2775 1654
theorem rZ {v0 v1:V}:af c n L Q X vD 1655 [184] ["book","path"] [] [v0,v1]:=bg rfl λP g=>by kernel_rfl
noncomputable def qm:Ap:=bi [185] "_law_is_room" .none "law_np0227_01" 2775 1661
theorem nI {v0 v1:V}:af c n L Q X qm 1662 [185] ["paths","path"] [] [v0,v1]:=bg rfl λP g=>by kernel_rfl
noncomputable def r5:Ap:=bi [186] "_law_octets" .none "law_np0227_01" 2775 1668
theorem oS {v0 v1:V}:af c n L Q X r5 1669 [186] ["held","record"] [] [v0,v1]:=bg rfl λP g=>by kernel_rfl
noncomputable def ud:Ap:=bi [187] "_law_after" .none "law_np0227_01" 2775 1675
theorem qn {v0 v1:V}:af c n L Q X ud 1676 [187] ["book","record"] [] [v0,v1]:=bg rfl λP g=>by kernel_rfl
noncomputable def ue:Ap:=bi [188] "_law_tells" .none "law_np0227_01" 2775 1680
theorem qo {v0 v1:V}:af c n L Q X ue 1681 [188] ["files","book"] [] [v0,v1]:=bg rfl λP g=>by kernel_rfl
noncomputable def vE:Ap:=bi [189] "_law_tree" .none "law_np0227_01" 2775 1687
theorem r6:af c n L Q X vE 1688 [189] [] [] []:=bg rfl λP g=>by kernel_rfl
noncomputable def i9:Ap:=bi [190] "law" .none "law_np0227_01" 2775 1692
theorem acx {v0:V}:af c n L Q X i9 1693 [190] ["script"] [] [v0]:=bg rfl λP g=>by kernel_rfl
theorem kj:xG az 2 ["self","why"] []:=acv rfl λP g=>by kernel_rfl
end
end Mine
namespace Mine
set_option maxHeartbeats 0
open PySem PySem.W PyProof.Rows PySem.Calls
noncomputable def acy:List (List (Str × Ae)):=[
 [],
 [],
 [],
 [(Ab "FAT",.int 2 625),(Ab "abs",.builtin "abs"),(Ab "all",.builtin "all"),(Ab "chr",.builtin "chr"),(Ab "int",.type "int"),(Ab "len",.builtin "len"),(Ab "max",.builtin "max"),(Ab "min",.builtin "min"),(Ab "ord",.builtin "ord"),(Ab "set",.type "set"),(Ab "str",.type "str"),(Ab "sum",.builtin "sum")],
 [(Ab "BITS",.int 32 594),(Ab "FILE",.int 8 1397),(Ab "Heap",.ref 1132),(Ab "Sink",.ref 259),(Ab "dict",.type "dict"),(Ab "done",.ref 187),(Ab "list",.type "list"),(Ab "made",.ref 180)],
 [(Ab "BONUS",.int 32 1961),(Ab "DNODE",.int 97 1975),(Ab "Dnode",.ref 1168),(Ab "Loops",.ref 171),(Ab "MICRO",.int 1 623),(Ab "SORTS",.int 4 1022),(Ab "Shape",.ref 500),(Ab "ZNODE",.int 21 1104),(Ab "Znode",.ref 640),(Ab "bytes",.type "bytes"),(Ab "range",.type "range")],
 [(Ab "Change",.ref 1481),(Ab "Cursor",.ref 309),(Ab "DNODES",.int 3 1393),(Ab "Exists",.ref 87),(Ab "FOLDER",.int 9 1399),(Ab "MASTER",.int 14 1401),(Ab "NUMBER",.int 8 635),(Ab "padded",.ref 320),(Ab "sorted",.builtin "sorted"),(Ab "walked",.ref 703)],
 [(Ab "Corrupt",.ref 51),(Ab "LONGEST",.int 28 645),(Ab "Missing",.ref 75),(Ab "Misused",.ref 99),(Ab "SetHead",.ref 1348),(Ab "entries",.ref 609),(Ab "look_up",.ref 590),(Ab "new_zap",.ref 518),(Ab "salt_of",.ref 341),(Ab "sort_of",.ref 404),(Ab "zap_all",.ref 482),(Ab "zap_put",.ref 523)],
 [(Ab "FAT_HEAD",.int 18 631),(Ab "FileTree",.ref 973),(Ab "FileView",.ref 797),(Ab "IsFolder",.ref 147),(Ab "NotEmpty",.ref 159),(Ab "UNLINKED",.int 15 1403),(Ab "ahead_of",.ref 710),(Ab "is_empty",.ref 616),(Ab "replayed",.ref 194),(Ab "start_of",.ref 696),(Ab "want_row",.ref 348),(Ab "zap_find",.ref 475),(Ab "zap_take",.ref 528),(Ab "znode_of",.ref 658)],
 [(Ab "FILE_SORT",.int 0 1086),(Ab "LINK_SORT",.int 2 1090),(Ab "MOST_MODE",.int 65535 1421),(Ab "MOST_SIZE",.int 4294967295 1427),(Ab "NotFolder",.ref 135),(Ab "ObjectSet",.ref 1639),(Ab "PoolFault",.ref 38),(Ab "ROOT_NAME",.str (Ab "root") 1270),(Ab "_law_goal",.ref 1655),(Ab "_law_tree",.ref 1688),(Ab "bytearray",.type "bytearray"),(Ab "enumerate",.type "enumerate"),(Ab "is_within",.ref 717),(Ab "make_tree",.ref 808),(Ab "number_of",.ref 199),(Ab "octets_of",.ref 204),(Ab "put_entry",.ref 597)],
 [(Ab "MANY_KINDS",.int 18 1405),(Ab "MICRO_HEAD",.int 7 629),(Ab "MOST_BLOCK",.int 65536 2494),(Ab "MOST_LINKS",.int 8 1196),(Ab "MOST_SIGNS",.int 28 1024),(Ab "_law_after",.ref 1676),(Ab "_law_tells",.ref 1681),(Ab "isinstance",.builtin "isinstance"),(Ab "load_znode",.ref 665),(Ab "micro_rows",.ref 362),(Ab "take_entry",.ref 604)],
 [(Ab "FOLDER_SORT",.int 1 1088),(Ab "InvalidName",.ref 111),(Ab "InvalidPath",.ref 123),(Ab "MOST_BLOCKS",.int 16777215 2071),(Ab "MOST_LEVELS",.int 12 1977),(Ab "_law_octets",.ref 1669),(Ab "_law_record",.ref 1648),(Ab "first_block",.ref 451),(Ab "link_target",.ref 682),(Ab "most_blocks",.ref 1200),(Ab "octets_text",.ref 214),(Ab "store_znode",.ref 672),(Ab "text_octets",.ref 209),(Ab "want_folder",.ref 689)],
 [(Ab "_law_is_room",.ref 1662),(Ab "micro_octets",.ref 355),(Ab "znode_octets",.ref 651)],
 [(Ab "MASTER_OBJECT",.int 1 1268),(Ab "UNLINKED_NAME",.str (Ab "unlinked") 1419),(Ab "is_entry_name",.ref 576)],
 [],
 [(Ab "want_entry_name",.ref 583)],
 [(Ab "parts_of_setview",.ref 1371)],
 [(Ab "parts_of_pathwalk",.ref 677)]]
noncomputable def oU (k:Nat):List (Str × Ae):=acy.getD k []
noncomputable def gOk (P:Params) (p:Str × Ae):Bool:=gl P p.1==some p.2&&(match p.2 with
 | .ref _=>cX P p.2
 | _=>true)
theorem acz (P:Params):acy.all (·.all (gOk P))=true:=by kernel_rfl
theorem ag5 (P:Params) (k:Nat):(oU k).all (gOk P)=true:=by
 rw [oU,Ak]
 cases h:acy[k]? with
 | none=>rfl
 | some l=>exact List.all_eq_true.mp (acz P) l (Bc h)
theorem qr {α:Type} {p:Str × α->Bool} {x:Str} {a:α} {l:List (Str × α)} (h:l.lookup x=some a) (q:l.all p=true):p (x,a)=true:=List.all_eq_true.mp q _ (mem_of_lookup h)
theorem z7 {x:Str} {v:Ae} (h:(oU x.cps.size).lookup x=some v) (P:Params):gl P x=some v∧(∀ a,v=.ref a->cX P v=true):=by
 have z:=qr h (ag5 P _)
 have z:=(Al _ _).mp z
 exact ⟨eq_of_beq z.1,λa e=>by subst e;exact z.2⟩
noncomputable def qt:Ae->Bool
 | .builtin _=>true
 | .type _=>true
 | .ref _=>true
 | _=>false
theorem ac0 {x:Str} {v:Ae} (h:(oU x.cps.size).lookup x=some v) (hc:qt v=true) (P:Params):cX P v=true:=by
 cases v with
 | ref a=>exact (z7 h P).2 a rfl
 | builtin=>rfl
 | type=>rfl
 | _=>cases hc
section
variable {c:Cx} {n:Nat} {env:Env} {m:Loc} {L:ah} {Q:ad} {X:ac}
theorem ag6 {x:Str} {np pos:Pos} {args:List Expr} {f:Ae} (hk:env.kindOf x=some .globalImplicit) (ht:(oU x.cps.size).lookup x=some f) (hc:qt f=true)
 (h:cI c n env m (AY pos (Ay args env)) L (λvs L1=>ae c n f vs L1 Q X) X) (hp:(AY pos (Ay args env)).any (·.1)=false) (hd:(x==("__debug__":Str))=false):
 bv c n env m (eval (.Call (.Name x np) args [] pos) env) L Q X:=alb hk (λP=>(z7 ht P).1) (ac0 ht hc) h hp hd
theorem ag7 {x:Str} {pos:Pos} {f:Ae} {v:V} (hk:env.kindOf x=some .globalImplicit) (ht:(oU x.cps.size).lookup x=some f) (hs:sv f=some v) (h:Q v L) (hd:(x==("__debug__":Str))=false):
 bv c n env m (eval (.Name x pos) env) L Q X:=by
 intro A s _ _ S V
 show(.of (BR V.kind hk ?_ hd),vp (z7 ht c.w.params).1 S V (aN S h (ajh hs)))
end
noncomputable def qu:List Addr:=[259,309,500,640,797,973,1132,1168,1348,1481,1639]
noncomputable def z8:Nat->List Str
 | 259=>[Ab "octets"]
 | 309=>[Ab "octets",Ab "at"]
 | 500=>[Ab "sector",Ab "slab",Ab "record",Ab "fan",Ab "dnodes",Ab "ring",Ab "defer",Ab "most_record",Ab "uber",Ab "config",Ab "zap"]
 | 640=>[Ab "sort",Ab "mode",Ab "size",Ab "links",Ab "parent",Ab "made",Ab "changed"]
 | 797=>[Ab "view",Ab "root"]
 | 973=>[Ab "objset",Ab "now",Ab "seen",Ab "unlinked",Ab "opened"]
 | 1132=>[Ab "sector",Ab "blocks",Ab "gone",Ab "next",Ab "written"]
 | 1168=>[Ab "kind",Ab "block",Ab "levels",Ab "most",Ab "bonus",Ab "pointer",Ab "used"]
 | 1348=>[Ab "meta",Ab "sort",Ab "log",Ab "words"]
 | 1481=>[Ab "dnode",Ab "is_new",Ab "blocks",Ab "first",Ab "most"]
 | 1639=>[Ab "io",Ab "shape",Ab "pointer",Ab "view",Ab "changes",Ab "gone",Ab "top",Ab "is_turned",Ab "head",Ab "head"]
 | _=>[]
noncomputable def alg:Nat->List (Str × Addr)
 | 259=>[(Ab "number",235),(Ab "text",249),(Ab "whole",256)]
 | 309=>[(Ab "left",285),(Ab "take",292),(Ab "number",299),(Ab "text",306)]
 | 797=>[(Ab "find",739),(Ab "octets",754),(Ab "below",780),(Ab "all_paths",787),(Ab "contents",794)]
 | 973=>[(Ab "change",830),(Ab "place_for",837),(Ab "want_mode",844),(Ab "add_file",851),(Ab "create",858),(Ab "make_dir",865),(Ab "symlink",872),(Ab "link",879),(Ab "file_at",886),(Ab "write",893),(Ab "truncate",900),(Ab "set_mode",907),(Ab "drop_name",914),(Ab "remove",921),(Ab "remove_dir",928),(Ab "make_room",935),(Ab "rename",942),(Ab "moved",949)]
 | 1168=>[(Ab "copy",1158)]
 | 1481=>[(Ab "told",1478)]
 | 1639=>[(Ab "is_there",1507),(Ab "objects",1512),(Ab "dnode",1519),(Ab "block_of",1533),(Ab "read",1538),(Ab "changed",1552),(Ab "add",1560),(Ab "greatest",1567),(Ab "add_at",1575),(Ab "drop",1582),(Ab "set_bonus",1589),(Ab "write",1596),(Ab "cut",1601)]
 | _=>[]
noncomputable def ac1:Nat->Nat
 | 259=>228
 | 309=>278
 | 500=>497
 | 640=>630
 | 797=>731
 | 973=>822
 | 1132=>1083
 | 1168=>1151
 | 1348=>1338
 | 1481=>1471
 | 1639=>1500
 | _=>0
noncomputable def xi (P:Params) (C:Addr):Bool:=(z8 C).all (λx=>attrOk (K0 P) C x&&storeOk (K0 P) C x)&&(alg C).all (λp=>tQ (K0 P) C p.1 p.2&&keepIn (K0 P) (.ref p.2))&&
 (makesIn (K0 P) C&&DH (K0 P) (.ref C) "__init__"==some (some (.ref (ac1 C)))&&typeIn (K0 P) (.ref (ac1 C))==some (.type "function"))
theorem ac2 (P:Params):xi P 259=true:=by kernel_rfl
theorem xQ (P:Params):xi P 309=true:=by kernel_rfl
theorem aaa (P:Params):xi P 500=true:=by kernel_rfl
theorem aab (P:Params):xi P 640=true:=by kernel_rfl
theorem uf (P:Params):xi P 797=true:=by kernel_rfl
theorem ug (P:Params):xi P 973=true:=by kernel_rfl
theorem ac3 (P:Params):xi P 1132=true:=by kernel_rfl
theorem aac (P:Params):xi P 1168=true:=by kernel_rfl
theorem vF (P:Params):xi P 1348=true:=by kernel_rfl
theorem xR (P:Params):xi P 1481=true:=by kernel_rfl
theorem r7 (P:Params):xi P 1639=true:=by kernel_rfl
theorem aok (P:Params):qu.all (xi P)=true:=by
 simp only [qu,HE,List.all_nil,Bool.and_true,Al]
 exact ⟨ac2 P,xQ P,aaa P,aab P,uf P,ug P,ac3 P,aac P,vF P,xR P,r7 P⟩
theorem xS {C:Addr} (h:qu.contains C=true) (P:Params):xi P C=true:=List.all_eq_true.mp (aok P) C (List.contains_iff_mem.mp h)
section
variable {c:Cx} {n:Nat} {env:Env} {m:Loc} {L:ah} {Q:ad} {X:ac}
theorem yY {C:Addr} {x:Str} (h:(qu.contains C&&(z8 C).contains x)=true) (P:Params):attrOk (K0 P) C x=true∧storeOk (K0 P) C x=true:=by
 rw [Al] at h
 have z:=xS h.1 P
 unfold xi at z
 rw [Al,Al] at z
 have:=List.all_eq_true.mp z.1.1 x (List.contains_iff_mem.mp h.2)
 rwa [Al] at this
theorem alh {a C d:Addr} {fs:List (Str × V)} {name:Str} {expr:Bool} {v:V} (hm:(a,aj.inst C d fs)∈c.R++L) (hk:(qu.contains C&&(z8 C).contains name)=true) (hf:fs.lookup name=some v) (h:Q v L):
 OkU c n (λo=>Hg o name expr) (.obj a) L Q X:=aom hm hf (λP=>(yY hk P).1) h
theorem ak {a C d:Addr} {fs:List (Str × V)} {name:Str} {L₁:ah} {v:V} {Q:ah->Prop} (hp:bW L a (.inst C d fs) L₁) (hk:(qu.contains C&&(z8 C).contains name&&D7 fs.length 900)=true) (h:Q ((a,.inst C d (mW fs name v))::L₁)):
 OkW c n (λo x=>Jf o name x) (.obj a) v L Q X:=by
 rw [Al] at hk
 exact aon hp (λP=>(yY hk.1 P).2) (Bq hk.2) h
theorem ali {a C d f:Addr} {fs:List (Str × V)} {name:Str} {args:List Expr} {pos:Pos} (hm:(a,aj.inst C d fs)∈c.R++L) (hk:qu.contains C=true) (hf:(alg C).lookup name=some f) (hn:fs.lookup name=none)
 (h:cI c n env m (AY pos (Ay args env)) L (λvs L1=>ae c n (.ref f) (.obj a::vs) L1 Q X) X) (hp:(AY pos (Ay args env)).any (·.1)=false):xh c n env m name args pos (.obj a) L Q X:=by
 have z:∀ P,tQ (K0 P) C name f=true∧keepIn (K0 P) (.ref f)=true:=λP=>by
  have z:=xS hk P
  unfold xi at z
  rw [Al,Al] at z
  have:=qr hf z.1.2
  rwa [Al] at this
 exact aor hm hn (λP=>(z P).1) (λP=>(z P).2) h hp
theorem b6 {C:Addr} {vs:List V} (hk:qu.contains C=true) (h:∀ x d,mZ c n (.ref (ac1 C)) (.obj x::vs) ((x,.inst C d [])::L) (λv L'=>v=.none∧Q (.obj x) L') X):ae c (n+1) (.ref C) vs L Q X:=by
 have z:∀ P,makesIn (K0 P) C=true∧DH (K0 P) (.ref C) "__init__"=some (some (.ref (ac1 C)))∧typeIn (K0 P) (.ref (ac1 C))=some (.type "function"):=λP=>by
  have z:=xS hk P
  unfold xi at z
  rw [Al,Al,Al,Al,beq_iff_eq,beq_iff_eq] at z
  exact ⟨z.2.1.1,z.2.1.2,z.2.2⟩
 exact ald (λP=>(z P).1) (λP=>(z P).2.1) (λP=>(z P).2.2) h
end
end Mine
namespace Mine
open PySem PySem.W PyProof.Rows PySem.Calls
section
variable {c:Cx} {n:Nat} {env:Env} {m:Loc} {L:ah} {Q:ad} {X:ac}
theorem aos {a b:Int} (h:Q (.int (a+b)) L):bj c n (CC .Add) (.int a) (.int b) L Q X:=
 ⟨λA s r1 r2 O O S x1 x2=>by refine aE x1.inv λO q1'=>?_;subst q1';refine aE x2.inv λO q1'=>?_;subst q1';exact P.add_int (ay S h (.int _ _))⟩
theorem aot {a b:Int} (h:Q (.int (a - b)) L):bj c n (CC .Sub) (.int a) (.int b) L Q X:=
 ⟨λA s r1 r2 O O S x1 x2=>by refine aE x1.inv λO q1'=>?_;subst q1';refine aE x2.inv λO q1'=>?_;subst q1';exact P.sub_int (ay S h (.int _ _))⟩
theorem l7 {a b:Int} (hm:Io a b) (h:Q (.int (a * b)) L):bj c n (CC .Mult) (.int a) (.int b) L Q X:=
 ⟨λA s r1 r2 O O S x1 x2=>by refine aE x1.inv λO q1'=>?_;subst q1';refine aE x2.inv λO q1'=>?_;subst q1';exact PyProof.Rows.mul_int (ay S h (.int _ _)) hm⟩
theorem cr {a b:Int} (h:a.natAbs <2 ^ 20):Io a b:=by
 unfold Io
 intro q
 rw [Al,Al,decide_eq_true_eq] at q
 have:DI a≤20:=intBits_le_iff.mpr h
 have z:shortFactorBits≥20:=by decide
 lia
theorem vG {a b:Int} (h:b.natAbs <2 ^ 20):Io a b:=by
 unfold Io
 intro q
 rw [Al,Al,decide_eq_true_eq,decide_eq_true_eq] at q
 have:DI b≤20:=intBits_le_iff.mpr h
 have z:shortFactorBits≥20:=by decide
 lia
theorem c5 {a b:Int} (hb:0 <b) (h:Q (.int (a % b)) L):bj c n (CC .Mod) (.int a) (.int b) L Q X:=
 ⟨λA s r1 r2 O O S x1 x2=>by
  refine aE x1.inv λO q1'=>?_;subst q1';refine aE x2.inv λO q1'=>?_;subst q1'
  show[PyProof.Rows.mod_int' (by lia)]
  rw [Int.fmod_eq_emod_of_nonneg _ (by lia)]
  exact ay S h (.int _ _)⟩
theorem l8 {a b:Int} (hb:0 <b) (hp:Builtin.divisionGoesByPylong a b=false) (h:Q (.int (a / b)) L):bj c n (CC .FloorDiv) (.int a) (.int b) L Q X:=
 ⟨λA s r1 r2 O O S x1 x2=>by
  refine aE x1.inv λO q1'=>?_;subst q1';refine aE x2.inv λO q1'=>?_;subst q1'
  refine PyProof.Rows.floordiv_int (by lia) ?_ (.inl hp)
  rw [Fe _ (by lia)]
  exact ay S h (.int _ _)⟩
theorem aou {a b:Int} (hb:0≤b) (h:Q (.int (a / 2 ^ b.toNat)) L):bj c n (CC .RShift) (.int a) (.int b) L Q X:=
 ⟨λA s r1 r2 O O S x1 x2=>by
  refine aE x1.inv λO q1'=>?_;subst q1';refine aE x2.inv λO q1'=>?_;subst q1'
  show[PyProof.Rows.rshift_int hb]
  rw [Fe _ (Bf (Int.pow_pos (by decide)))]
  exact ay S h (.int _ _)⟩
theorem ac4 {a:Int} (h:Q (.int (a % 256)) L):bj c n (CC .BitAnd) (.int a) (.int 255) L Q X:=
 ⟨λA s r1 r2 O O S x1 x2=>by
  refine aE x1.inv λO q1'=>?_;subst q1';refine aE x2.inv λO q1'=>?_;subst q1'
  show[PyProof.Rows.and_int]
  rw [bitAnd_m8]
  exact ay S h (.int _ _)⟩
theorem aov {a b:Int} (hb:0≤b) (hb2:b≤1000000) (ha:a.natAbs <2 ^ 64) (h:Q (.int (a * 2 ^ b.toNat)) L):bj c n (CC .LShift) (.int a) (.int b) L Q X:=
 ⟨λA s r1 r2 O O S x1 x2=>by refine aE x1.inv λO q1'=>?_;subst q1';refine aE x2.inv λO q1'=>?_;subst q1';exact PyProof.Rows.lshift_int_small hb hb2 ha (ay S h (.int _ _))⟩
theorem yZ {a b:Int} (hb:0 <b) (hb2:b≤1000) (ha:2≤a) (ha2:a≤1000) (h:Q (.int (a ^ b.toNat)) L):bj c n (CC .Pow) (.int a) (.int b) L Q X:=
 ⟨λA s r1 r2 O O S x1 x2=>by
  refine aE x1.inv λO q1'=>?_;subst q1';refine aE x2.inv λO q1'=>?_;subst q1'
  refine AutoIntOps.pow_4 (by lia) (by simp;lia) (by simp;lia) (by simp;lia) ?_ ?_
  ·have:DI a≤10:=intBits_le_iff.mpr (Int.ofNat_lt.mp (Az (CO (Ev (Au (by decide) ha))) (Az ha2 (by decide:(1000:Int) <((2 ^ 10:Nat):Int)))))
   unfold Builtin.Int.intTooBig
   rw [decide_eq_true_eq]
   have hz:(PySem.bitsLine:Int)≥100000:=by decide
   have:((DI a:Nat):Int) * b≤10 * 1000:=Int.mul_le_mul (by lia) hb2 (by lia) (by lia)
   lia
  ·exact ay S h (.int _ _)⟩
theorem qv {a:Int} (h:Q (.int (-a)) L):OkU c n (unaryOp .USub) (.int a) L Q X:=
 ⟨λA s r O O S x=>by refine aE x.inv λO q1'=>?_;subst q1';exact P.neg_int (ay S h (.int _ _))⟩
theorem aow {a b:Int} (h:Q (.bool (decide (a=b))) L):bj c n (AU .Eq) (.int a) (.int b) L Q X:=
 ⟨λA s r1 r2 O O S x1 x2=>by refine aE x1.inv λO q1'=>?_;subst q1';refine aE x2.inv λO q1'=>?_;subst q1';exact P.eq_int (aN S (by rw [show (a==b)=decide (a=b) from rfl] at *;exact h) (.bool _))⟩
theorem aox {a b:Int} (h:Q (.bool (decide (a≠b))) L):bj c n (AU .NotEq) (.int a) (.int b) L Q X:=
 ⟨λA s r1 r2 O O S x1 x2=>by
  refine aE x1.inv λO q1'=>?_;subst q1';refine aE x2.inv λO q1'=>?_;subst q1'
  have e:(a != b)=decide (a≠b):=by rw [GF];simp
  exact P.ne_int (e▸aN S h (.bool _))⟩
theorem aoy {a b:Int} (h:Q (.bool (decide (a <b))) L):bj c n (AU .Lt) (.int a) (.int b) L Q X:=
 ⟨λA s r1 r2 O O S x1 x2=>by refine aE x1.inv λO q1'=>?_;subst q1';refine aE x2.inv λO q1'=>?_;subst q1';exact P.lt_int (aN S h (.bool _))⟩
theorem aoz {a b:Int} (h:Q (.bool (decide (a≤b))) L):bj c n (AU .LtE) (.int a) (.int b) L Q X:=
 ⟨λA s r1 r2 O O S x1 x2=>by refine aE x1.inv λO q1'=>?_;subst q1';refine aE x2.inv λO q1'=>?_;subst q1';exact P.le_int (aN S h (.bool _))⟩
theorem ao0 {a b:Int} (h:Q (.bool (decide (b <a))) L):bj c n (AU .Gt) (.int a) (.int b) L Q X:=
 ⟨λA s r1 r2 O O S x1 x2=>by refine aE x1.inv λO q1'=>?_;subst q1';refine aE x2.inv λO q1'=>?_;subst q1';exact P.gt_int (aN S h (.bool _))⟩
theorem ao1 {a b:Int} (h:Q (.bool (decide (b≤a))) L):bj c n (AU .GtE) (.int a) (.int b) L Q X:=
 ⟨λA s r1 r2 O O S x1 x2=>by refine aE x1.inv λO q1'=>?_;subst q1';refine aE x2.inv λO q1'=>?_;subst q1';exact P.ge_int (aN S h (.bool _))⟩
theorem ao2 (x y:Str):(x.cps.toList==y.cps.toList)=decide (x=y):=by
 rw [GF,beq_iff_eq,decide_eq_true_eq]
 constructor
 ·intro h
  cases x;cases y
  simp only at h
  rw [Array.toList_inj.mp h]
 ·rintro rfl;rfl
theorem alj {a b:Str} (h:Q (.bool (decide (a=b))) L):bj c n (AU .Eq) (.str a) (.str b) L Q X:=
 ⟨λA s r1 r2 O O S x1 x2=>by refine aE x1.inv λO q1'=>?_;subst q1';refine aE x2.inv λO q1'=>?_;subst q1';exact P.eq_str (ao2 a b▸aN S h (.bool _))⟩
theorem alk {a b:Str} (h:Q (.bool (!decide (a=b))) L):bj c n (AU .NotEq) (.str a) (.str b) L Q X:=
 ⟨λA s r1 r2 O O S x1 x2=>by
  refine aE x1.inv λO q1'=>?_;subst q1';refine aE x2.inv λO q1'=>?_;subst q1'
  have e:(a.cps.toList != b.cps.toList)=!decide (a=b):=by rw [← ao2];rfl
  exact P.ne_str (e▸aN S h (.bool _))⟩
theorem alm {a b:List UInt8} (h:Q (.bool (decide (a=b))) L):bj c n (AU .Eq) (.bytes a) (.bytes b) L Q X:=
 ⟨λA s r1 r2 O O S x1 x2=>by
  refine aE x1.inv λO q1'=>?_;subst q1';refine aE x2.inv λO q1'=>?_;subst q1'
  have e:(a==b)=decide (a=b):=by rw [GF];simp
  exact eq_bytes (e▸aN S h (.bool _))⟩
noncomputable def V.isNone:V->Bool
 | .none=>true
 | _=>false
theorem VR.isNone {h:Heap} {F:List Addr} {v:V} {r:Ae} (x:VR h F v r):(r==B4)=v.isNone:=by cases x <;> rfl
theorem ao3 {v:V} (h:Q (.bool v.isNone) L):bj c n (AU .Is) v .none L Q X:=
 ⟨λA s r1 r2 O O S x1 x2=>by obtain ⟨_,rfl⟩:=x2.inv;exact PySem.is_none (x1.isNone▸aN S h (.bool _))⟩
theorem vH {A:Around} {s:Ad} {E:Ae->Ad->Prop} {v:Ae} {Q:Ae->Ad->Prop} {M:Model} (h:Q (.bool (!(v==.none))) s):AF M A (AU .IsNot v .none) Q E s:=by
 show AF M A (do return .bool (!(← isSame v .none))) Q E s
 rw [isSame_none];exact Ac (An (An h))
theorem ac5 {v:V} (h:Q (.bool (!v.isNone)) L):bj c n (AU .IsNot) v .none L Q X:=
 ⟨λA s r1 r2 O O S x1 x2=>by obtain ⟨_,rfl⟩:=x2.inv;exact vH (x1.isNone▸aN S h (.bool _))⟩
theorem ajk {b:Bool} {Q:Bool->ah->Prop} (h:Q b L):OkT c n (.bool b) L Q X:=
 ⟨λA s r O O S x=>by obtain ⟨_,rfl⟩:=x.inv;exact Ca (pO S h)⟩
theorem kZ {a b:Str} (hz:a.length+b.length≤1000000) (h:Q (.str (a++b)) L):bj c n (CC .Add) (.str a) (.str b) L Q X:=
 ⟨λA s r1 r2 O O S x1 x2=>by refine aE x1.inv λO q1'=>?_;subst q1';refine aE x2.inv λO q1'=>?_;subst q1';exact PyProof.Rows.add_str (λO O=>ay S h (.str _ _)) (by rw [AQ];lia)⟩
theorem k8 {a b:List UInt8} (hz:a.length+b.length≤1000000) (h:Q (.bytes (a++b)) L):bj c n (CC .Add) (.bytes a) (.bytes b) L Q X:=
 ⟨λA s r1 r2 O O S x1 x2=>by
  refine aE x1.inv λO q1'=>?_;subst q1';refine aE x2.inv λO q1'=>?_;subst q1'
  refine KBy.add_bytes (by simp only [Bl];lia) λt k=>?_
  rw [show (⟨a⟩:Array UInt8)++⟨b⟩=⟨a++b⟩ by simp]
  exact ay S h (.bytes _ _)⟩
theorem bT.app {h:Heap} {F:List Addr} {l l':List V} {us us':List Ae} (x:bT h F l us) (b:bT h F l' us'):bT h F (l++l') (us++us'):=x.ind (P:=λl us=>bT h F (l++l') (us++us')) b λa O c=>.cons a c
theorem uh {a b:List V} (hz:a.length+b.length≤1000000) (h:Q (.list (a++b)) L):bj c n (CC .Add) (.list a) (.list b) L Q X:=
 ⟨λA s r1 r2 O O S x1 x2=>by
  refine jC x1.inv λvs l k q1' hF ho hs=>?_
  subst q1'
  refine jC x2.inv λws l2 k2 q1' hF2 ho2 hs2=>?_
  subst q1'
  have e:vs.toArray++ws.toArray=(vs++ws).toArray:=by simp
  have l1:=hs.len
  have l2':=hs2.len
  refine concat_meets ⟨_,ho,rfl⟩ ⟨_,ho2,rfl⟩ noFill_list_add seq_list_add PySem.F.slot_list_add PySem.F.entry_list_add (PySem.F.args_list_add_2 _ _) (list_addW l l2 vs.toArray ws.toArray k k2 none none #[] #[] (by rw [Bl,Bl,AQ];lia)) ⟨ho,ho2,?_⟩
  rw [e]
  exact lO S h (.list S.size_out (Ax _ rfl) ((hs.app hs2).mono (dN λO O e=>Aj _ e)))⟩
structure du (c:Cx) (n:Nat) (v i:V) (L:ah) (Q:ad) (X:ac):Prop where
 go:∀ (A:Around) (s:Ad) (r1 r2:Ae),jF n A->bF c A s.heap->St c L s->mO c L s v r1->mO c L s i r2->
  ∃ T id,s.TypeIs r1 T∧B3 (.type T) "__getitem__"=pure (some (.builtin id))∧AF (At pw c.w) A (getItem r1 r2) (cD c L s Q) (bG c L s X) s
theorem ao4 {e i:Expr} {pos:Pos} (h:bv c n env m (eval e env) L (λv1 L1=>bv c n env m (eval i env) L1 (λv2 L2=>du c n v1 v2 L2 Q X) X) X) (hs:∀ o j,subscripted i false o j=operate [o,j] (getItem o j)):
 bv c n env m (eval (.Subscript e i pos) env) L Q X:=by
 intro A s hb hf S V
 refine ou (ai (h A s hb hf S V) (λr1 s1 g1=>?_) λO O z=>z)
 obtain ⟨v1,L1,k1,S1,x1,e1⟩:=g1
 refine ai (k1 A s1 hb (hf.evo S e1) S1 (V.evo S e1)) (λr2 s2 g2=>?_) λO O z=>z.after e1
 obtain ⟨v2,L2,k2,S2,x2,e2⟩:=g2
 show(fg (k2.go A s2 r1 r2 hb ((hf.evo S e1).evo S1 e2) S2 (x1.mono e2.ext) x2) λT id hT hl w=>?_,.of (tail_any hT hl (BC w (λO O z=>(z.after e2).after e1) λO O z=>(z.after e2).after e1) (hs _ _)))
theorem bT.at {h:Heap} {F:List Addr} {l:List V} {us:List Ae} (x:bT h F l us):∀ {k:Nat} {v:V},l[k]?=some v->∃ r,us[k]?=some r∧VR h F v r:=
 x.ind (P:=λl us=>∀ {k:Nat} {v:V},l[k]?=some v->∃ r,us[k]?=some r∧VR h F v r) (λ{k} {v} e=>by cases e) λ{v rv l vs} x O ih {k} {u} e=>by
  cases k with
  | zero=>cases e;exact ⟨rv,rfl,x⟩
  | succ k=>exact ih (k:=k) e
theorem eH {l:List V} {i:Int} {v:V} {k:Nat} (hl:l.length≤1000000) (hk:IL i l.length=some k) (hi:-1000000≤i∧i≤1000000) (hv:l[k]?=some v) (h:Q v L):du c n (.tup l) (.int i) L Q X:=
 ⟨λA s r1 r2 O O S x1 x2=>by
  refine aE x2.inv λO q1'=>?_
  subst q1'
  refine jC x1.inv λvs a k' q1' hF ho hs=>?_
  subst q1'
  show[an (hs.at hv) λr e1 e2=>?_,⟨"tuple",_,⟨_,ho,rfl⟩,PySem.F.slot_tuple_getitem.lookup,P.getItem_tuple (n:=k') (items:=⟨vs⟩) (y:=r) (k:=k) ho (by lia) (by lia) (by rw [show (⟨vs⟩:Array Ae).size=l.length from hs.len];exact hk) ?_ (aN S h e2)⟩]
  exact (Eg ..).trans e1⟩
theorem ui {l:List V} {i:Int} {v:V} (hl:l.length≤1000000) (h0:0≤i) (hv:l[i.toNat]?=some v) (h:Q v L):du c n (.list l) (.int i) L Q X:=
 ⟨λA s r1 r2 O O S x1 x2=>by
  refine aE x2.inv λO q1'=>?_
  subst q1'
  refine jC x1.inv λvs a k' q1' hF ho hs=>?_
  subst q1'
  refine an (hs.at hv) λr e1 e2=>?_
  have hlt:i.toNat <l.length:=by
   cases q:decide (i.toNat <l.length) with
   | true=>exact of_decide_eq_true q
   | false=>
    have:l.length≤i.toNat:=Nat.not_lt.mp (of_decide_eq_false q)
    rw [Bw this] at hv;cases hv
  exact ⟨"list",_,⟨_,ho,rfl⟩,slot_list_getitem.lookup,wpAny_getItem_list (items:=⟨vs⟩) ⟨_,ho,rfl,_,rfl⟩ h0 (by lia) ((Eg ..).trans e1) (aN S h e2)⟩⟩
theorem sQ {l:List V} {i:Int} {v:V} (hl:l.length≤1000000) (h0:i <0) (h1:-(l.length:Int)≤i) (hv:l[(i+l.length).toNat]?=some v) (h:Q v L):du c n (.list l) (.int i) L Q X:=
 ⟨λA s r1 r2 O O S x1 x2=>by
  refine aE x2.inv λO q1'=>?_
  subst q1'
  refine jC x1.inv λvs a k' q1' hF ho hs=>?_
  subst q1'
  have hz:(⟨vs⟩:Array Ae).size=l.length:=hs.len
  refine an (hs.at hv) λr e1 e2=>?_
  exact ⟨"list",_,⟨_,ho,rfl⟩,slot_list_getitem.lookup,wpAny_getItem_list_neg (items:=⟨vs⟩) ⟨_,ho,rfl,_,rfl⟩ h0 (by rw [hz];exact h1) (by lia) (by rw [hz];exact (Eg ..).trans e1) (aN S h e2)⟩⟩
theorem y3 {l:List UInt8} {i:Int} (hl:l.length≤1000000) (h0:0≤i) (h1:i <l.length) (h:Q (.int ((l.getD i.toNat 0).toNat)) L):du c n (.bytes l) (.int i) L Q X:=
 ⟨λA s r1 r2 O O S x1 x2=>by
  refine aE x2.inv λO q1'=>?_
  subst q1'
  refine aE x1.inv λO q1'=>?_
  subst q1'
  exact ⟨"bytes",_,Ip _ _ _,FB.slot_bytes_getitem.lookup,getItem_bytes (l:=l) (by lia) h0 h1 (ay S h (.int _ _))⟩⟩
inductive ao5 (c:Cx) (L:ah) (s:Ad) (Q:Option Int->ah->Prop) (r:Ae) (s':Ad):Prop
 | mk (i:Option Int) (L':ah) (q:Q i L') (S:St c L' s') (x:IsPart r i) (e:bD (foot L) (foot L') s s')
structure ja (c:Cx) (n:Nat) (env:Env) (m:Loc) (e:Option Expr) (L:ah) (Q:Option Int->ah->Prop) (X:ac):Prop where
 go:∀ (A:Around) (s:Ad),jF n A->bF c A s.heap->St c L s->aA c s.heap (foot (c.R++L)) env m->av (At pw c.w) A (evalPart e env) (ao5 c L s Q) (bG c L s X) s
theorem aln {Q:Option Int->ah->Prop} (h:Q none L):ja c n env m none L Q X:=⟨λA s O O S V=>.of (Ht ⟨none,L,h,S,.none,bD.refl _ _⟩)⟩
theorem alo {e:Expr} {Q:Option Int->ah->Prop} (h:bv c n env m (eval e env) L (λv L1=>∃ i,v=.int i∧Q (some i) L1) X):ja c n env m (some e) L Q X:=
 ⟨λA s hb hf S V=>(ai (h A s hb hf S V) (λr s1 g=>by
  obtain ⟨v,L1,⟨i,rfl,q⟩,S1,x,e⟩:=g
  refine aE x.inv λO q1'=>?_
  subst q1'
  exact ⟨some i,L1,q,S1,.int _ _,e⟩) λO O z=>z)⟩
structure xT (c:Cx) (n:Nat) (v:V) (lo hi:Option Int) (L:ah) (Q:ad) (X:ac):Prop where
 go:∀ (A:Around) (s:Ad) (r vl vu:Ae) (a:Addr),jF n A->bF c A s.heap->St c L s->mO c L s v r->s.heap.IsSliceOf a vl vu .none->IsPart vl lo->IsPart vu hi->
  ∃ T id,s.TypeIs r T∧B3 (.type T) "__getitem__"=pure (some (.builtin id))∧AF (At pw c.w) A (getItem r (.ref a)) (cD c L s Q) (bG c L s X) s
theorem ag8 {e:Expr} {lo hi:Option Expr} {p pos:Pos} (h:bv c n env m (eval e env) L (λv L1=>ja c n env m lo L1 (λi L2=>ja c n env m hi L2 (λj L3=>xT c n v i j L3 Q X) X) X) X):
 bv c n env m (eval (.Subscript e (.Slice lo hi none p) pos) env) L Q X:=by
 intro A s hb hf S V
 refine ou (ai (h A s hb hf S V) (λr1 s1 g1=>?_) λO O z=>z)
 obtain ⟨v1,L1,k1,S1,x1,e1⟩:=g1
 have hf1:=hf.evo S e1
 have V1:=V.evo S e1
 refine agp (ai (k1.go A s1 hb hf1 S1 V1) (λr2 s2 g2=>?_) λO O z=>z.after e1)
 obtain ⟨i,L2,k2,S2,x2,e2⟩:=g2
 refine ai (k2.go A s2 hb (hf1.evo S1 e2) S2 (V1.evo S1 e2)) (λr3 s3 g3=>?_) λO O z=>(z.after e2).after e1
 obtain ⟨j,L3,k3,S3,x3,e3⟩:=g3
 refine .of (Ht ?_)
 have kp:∀ b o,s3.heap.get? b=some o->(s3.heap.push { cls:=.type "slice",data:=.fields #[r2,r3,.none] }).get? b=some o:=λb o q=>Aj _ q
 have e4:bD (foot L3) (foot L3) s3 { s3 with heap:=s3.heap.push { cls:=.type "slice",data:=.fields #[r2,r3,.none] } }:=bD.all (t:=s3.toks) kp
 have S4:=S3.all (t:=s3.toks) kp
 show(fg (k3.go A _ r1 r2 r3 s3.heap.objs.size hb (((hf1.evo S1 e2).evo S2 e3).evo S3 e4) S4 (((x1.mono e2.ext).mono e3.ext).mono e4.ext) (Heap.IsSliceOf.new _ _ _ _) x2 x3) λT id hT hl w=>?_,.of (tail_any hT hl (BC w (λO O z=>(((z.after e4).after e3).after e2).after e1) λO O z=>(((z.after e4).after e3).after e2).after e1) rfl))
noncomputable def aC {α:Type} (l:List α) (lo hi:Option Int):List α:=(l.drop (lo.elim 0 (Cq l.length))).take (hi.elim l.length (Cq l.length) - lo.elim 0 (Cq l.length))
theorem dE {l:List UInt8} {lo hi:Option Int} (hz:l.length≤1000000) (h:Q (.bytes (aC l lo hi)) L):xT c n (.bytes l) lo hi L Q X:=
 ⟨λA s r vl vu a O O S x sl pl pu=>by
  refine aE x.inv λO q1'=>?_
  subst q1'
  refine ⟨"bytes",_,Ip _ _ _,FB.slot_bytes_getitem.lookup,getItem_meets (Ip _ _ _) (by decide) FB.slot_bytes_getitem FB.entry_bytes_getitem (FB.args_bytes_getitem_2 _ _) (KBc.meets_slice2 ⟨l⟩ _ _ pl pu) ⟨sl,Ai (KBc.size_picked_le ⟨l⟩ lo hi) (by rw [Bl,AQ];lia),λt' k=>?_⟩⟩
  rw [KBc.picked_eq]
  exact ay S h (.bytes _ _)⟩
theorem bT.drop {h:Heap} {F:List Addr} {l:List V} {us:List Ae} (x:bT h F l us):∀ k,bT h F (l.drop k) (us.drop k):=
 x.ind (P:=λl us=>∀ k,bT h F (l.drop k) (us.drop k)) (λk=>by rw [List.drop_nil,List.drop_nil];exact .nil) λa b ih k=>by
  cases k with
  | zero=>exact .cons a b
  | succ k=>exact ih k
theorem bT.take {h:Heap} {F:List Addr} {l:List V} {us:List Ae} (x:bT h F l us):∀ k,bT h F (l.take k) (us.take k):=
 x.ind (P:=λl us=>∀ k,bT h F (l.take k) (us.take k)) (λk=>by rw [HF,HF];exact .nil) λa b ih k=>by
  cases k with
  | zero=>exact .nil
  | succ k=>exact .cons a (ih k)
theorem uj {l:List V} {lo hi:Option Int} (hz:l.length≤1000000) (h:Q (.list (aC l lo hi)) L):xT c n (.list l) lo hi L Q X:=
 ⟨λA s r vl vu a O O S x sl pl pu=>by
  refine jC x.inv λvs b k q1' hF ho hs=>?_
  subst q1'
  have hl:=hs.len
  refine ⟨"list",_,⟨_,ho,rfl⟩,slot_list_getitem.lookup,FK (items:=⟨vs⟩) ⟨_,ho,rfl,_,rfl⟩ sl pl pu .none (by simp) ?_ (by rw [Bl,AQ];lia)⟩
  rw [slicePick_plain]
  have e:(⟨vs⟩:Array Ae).size=l.length:=hl
  rw [e]
  exact lO S h (.list S.size_out (Ax _ rfl) (((hs.drop _).take _).mono (dN λO O e=>Aj _ e)))⟩
end
noncomputable def l9 {K:Type} [DecidableEq K] (fs:List (K × V)) (k:K) (v:V):List (K × V):=
 if fs.any (λp=>decide (p.1=k)) then fs.map (λp=>if p.1=k then (p.1,v) else p) else fs++[(k,v)]
noncomputable def ma {K:Type} [DecidableEq K] (fs:List (K × V)) (k:K):List (K × V):=fs.filter λp=>decide (p.1≠k)
noncomputable def getD {K:Type} [DecidableEq K] (fs:List (K × V)) (k:K):Option V:=(fs.find? λp=>decide (p.1=k)).map EB
section
variable {K:Type} [DecidableEq K] {h:Heap} {F:List Addr}
theorem bV.get {fs:List (K × V)} {kvs:List (K × Ae)} (x:bV h F fs kvs) (k:K):match getD fs k with
 | some v=>∃ rv,valueAt kvs k=some rv∧VR h F v rv
 | none=>valueAt kvs k=none:=by
 induction x with
 | nil=>rfl
 | @cons y v rv r es hv _ ih=>
  delta getD valueAt at *
  rw [A8,A8]
  by_cases q:y=k
  ·simp only [q,decide_true]
   exact ⟨rv,rfl,hv⟩
  ·simp only [q,decide_false]
   exact ih
theorem bV.len {fs:List (K × V)} {kvs:List (K × Ae)} (x:bV h F fs kvs):kvs.length=fs.length:=by
 induction x with
 | nil=>rfl
 | cons _ _ ih=>rw [AJ,AJ,ih]
theorem bV.keys {fs:List (K × V)} {kvs:List (K × Ae)} (x:bV h F fs kvs):kvs.map Ar=fs.map Ar:=by
 induction x with
 | nil=>rfl
 | cons _ _ ih=>rw [A0,A0,ih]
theorem bV.set {fs:List (K × V)} {kvs:List (K × Ae)} (x:bV h F fs kvs) {k:K} {v:V} {rv:Ae} (hv:VR h F v rv):bV h F (l9 fs k v) (stored kvs k rv):=by
 have ha:kvs.any (λkv=>decide (kv.1=k))=fs.any (λp=>decide (p.1=k)):=by
  have:=congrArg (λl=>l.any (λy=>decide (y=k))) x.keys
  simpa [EY,Im] using this
 unfold l9 stored
 rw [ha]
 by_cases q:fs.any (λp=>decide (p.1=k))=true
 ·rw [if_pos q,if_pos q]
  clear ha q
  induction x with
  | nil=>exact .nil
  | @cons y u ru r es hu _ ih=>
   rw [A0,A0]
   by_cases z:y=k
   ·rw [if_pos z,if_pos z];exact .cons hv ih
   ·rw [if_neg z,if_neg z];exact .cons hu ih
 ·rw [if_neg q,if_neg q]
  clear ha q
  induction x with
  | nil=>exact .cons hv .nil
  | cons hu _ ih=>exact .cons hu ih
theorem bV.del {fs:List (K × V)} {kvs:List (K × Ae)} (x:bV h F fs kvs) (k:K):bV h F (ma fs k) (without kvs k):=by
 unfold ma without
 induction x with
 | nil=>exact .nil
 | @cons y u ru r es hu _ ih=>
  rw [AM,AM]
  by_cases z:y=k
  ·simp only [z,ne_eq,not_true_eq_false,decide_false,C8,if_false];exact ih
  ·simp only [z,ne_eq,not_false_eq_true,decide_true,if_true];exact .cons hu ih
end
section
variable {c:Cx} {n:Nat} {env:Env} {m:Loc} {L:ah} {Q:ad} {X:ac}
theorem St.notMods {s:Ad} (S:St c L s) {a:Addr} (h:a∈foot (c.R++L)):(a==HV)=false:=by
 have:=(S.lo a (Aa _ h)).2
 rw [beq_eq_false_iff_ne]
 rintro rfl
 exact absurd this (by decide)
theorem b7 {a:Addr} {x:aj} {M:ah} (h:(a,x)∈M):a∈foot M:=cj h (by cases x <;> simp [aM])
theorem nJ {a:Addr} {fs:List (Int × V)} {k:Int} {v:V} (hm:(a,aj.dI fs)∈c.R++L) (hv:getD fs k=some v) (h:Q v L):du c n (.obj a) (.int k) L Q X:=
 ⟨λA s r1 r2 O O S x1 x2=>by
  obtain ⟨_,rfl⟩:=x1.inv;refine aE x2.inv λO q1'=>?_;subst q1'
  refine an (S.own _ hm) λkvs hD hE=>?_
  have z:=hE.get k
  rw [hv] at z
  refine an z λrv e1 e2=>?_
  exact ⟨"dict",_,hD.typeIs,slot_dict_getitem.lookup,wpAny_getItem_of (knd:=Fz pw c.w) (by simp [DO,EC]) hD.mapOf e1 (ay S h e2)⟩⟩
theorem lf {a:Addr} {fs:List (Str × V)} {k:Str} {v:V} (hm:(a,aj.dS fs)∈c.R++L) (hv:getD fs k=some v) (h:Q v L):du c n (.obj a) (.str k) L Q X:=
 ⟨λA s r1 r2 O O S x1 x2=>by
  obtain ⟨_,rfl⟩:=x1.inv;refine aE x2.inv λO q1'=>?_;subst q1'
  refine an (S.own _ hm) λkvs hD hE=>?_
  have z:=hE.get k
  rw [hv] at z
  refine an z λrv e1 e2=>?_
  exact ⟨"dict",_,hD.typeIs,slot_dict_getitem.lookup,wpAny_getItem_of (knd:=strKind pw c.w) (by simp [Cy,CT]) hD.mapOf e1 (ay S h e2)⟩⟩
theorem bV.isSome {K:Type} [DecidableEq K] {h:Heap} {F:List Addr} {fs:List (K × V)} {kvs:List (K × Ae)} (x:bV h F fs kvs) (k:K):(valueAt kvs k).isSome=(getD fs k).isSome:=by
 have z:=x.get k
 cases q:getD fs k with
 | none=>rw [q] at z;rw [z];rfl
 | some v=>rw [q] at z;refine an z λrv e O=>?_;rw [e];rfl
theorem o9 {a:Addr} {fs:List (Int × V)} {k:Int} (hm:(a,aj.dI fs)∈c.R++L) (h:Q (.bool (getD fs k).isSome) L):bj c n (AU .In) (.int k) (.obj a) L Q X:=
 ⟨λA s r1 r2 O O S x1 x2=>by
  refine aE x1.inv λO q1'=>?_;subst q1';obtain ⟨_,rfl⟩:=x2.inv
  show[an (S.own _ hm) λkvs hD hE=>?_,wpAny_in_of (knd:=Fz pw c.w) (k:=k) (by simp [DO,EC]) (S.notMods (b7 hm)) hD.mapOf]
  rw [hE.isSome];exact ay S h (.bool _)⟩
theorem lh {a:Addr} {fs:List (Int × V)} {k:Int} (hm:(a,aj.dI fs)∈c.R++L) (h:Q (.bool (!(getD fs k).isSome)) L):bj c n (AU .NotIn) (.int k) (.obj a) L Q X:=
 ⟨λA s r1 r2 O O S x1 x2=>by
  refine aE x1.inv λO q1'=>?_;subst q1';obtain ⟨_,rfl⟩:=x2.inv
  show[an (S.own _ hm) λkvs hD hE=>?_,wpAny_notIn_of (knd:=Fz pw c.w) (k:=k) (by simp [DO,EC]) (S.notMods (b7 hm)) hD.mapOf]
  rw [hE.isSome];exact ay S h (.bool _)⟩
theorem jG {a:Addr} {fs:List (Str × V)} {k:Str} (hm:(a,aj.dS fs)∈c.R++L) (h:Q (.bool (getD fs k).isSome) L):bj c n (AU .In) (.str k) (.obj a) L Q X:=
 ⟨λA s r1 r2 O O S x1 x2=>by
  refine aE x1.inv λO q1'=>?_;subst q1';obtain ⟨_,rfl⟩:=x2.inv
  show[an (S.own _ hm) λkvs hD hE=>?_,wpAny_in_of (knd:=strKind pw c.w) (k:=k) (by simp [Cy,CT]) (S.notMods (b7 hm)) hD.mapOf]
  rw [hE.isSome];exact ay S h (.bool _)⟩
theorem eJ {a:Addr} {fs:List (Str × V)} {k:Str} (hm:(a,aj.dS fs)∈c.R++L) (h:Q (.bool (!(getD fs k).isSome)) L):bj c n (AU .NotIn) (.str k) (.obj a) L Q X:=
 ⟨λA s r1 r2 O O S x1 x2=>by
  refine aE x1.inv λO q1'=>?_;subst q1';obtain ⟨_,rfl⟩:=x2.inv
  show[an (S.own _ hm) λkvs hD hE=>?_,wpAny_notIn_of (knd:=strKind pw c.w) (k:=k) (by simp [Cy,CT]) (S.notMods (b7 hm)) hD.mapOf]
  rw [hE.isSome];exact ay S h (.bool _)⟩
structure g8 (c:Cx) (n:Nat) (d k v:V) (L:ah) (Q:ah->Prop) (X:ac):Prop where
 go:∀ (A:Around) (s:Ad) (r1 r2 r3:Ae),jF n A->bF c A s.heap->St c L s->mO c L s d r1->mO c L s k r2->mO c L s v r3->
  AF (At pw c.w) A (setItem r1 r2 r3) (λO s'=>∃ L',Q L'∧St c L' s'∧bD (foot L) (foot L') s s') (bG c L s X) s
theorem fU {K:Type} [DecidableEq K] {knd:KeyKind pw c.w K} {h':Heap} {a:Addr} {kvs:List (K × Ae)} (x:h'.DictOf knd a kvs):∃ o,h'.get? a=some o:=e31 x λo O O e O=>⟨o,e⟩
theorem y4 {a:Addr} {fs:List (Int × V)} {L₁:ah} {k:Int} {v:V} {Q:ah->Prop} (hp:bW L a (.dI fs) L₁) (hz:fs.length≤100000) (h:Q ((a,.dI (l9 fs k v))::L₁)):g8 c n (.obj a) (.int k) v L Q X:=
 ⟨λA s r1 r2 r3 O O S x1 x2 x3=>by
  obtain ⟨_,rfl⟩:=x1.inv;refine aE x2.inv λO q1'=>?_;subst q1'
  have pm:=hp.perm
  have S1:=S.perm pm
  have mF:∀ b,b∈foot (c.R++((a,aj.dI fs)::L₁))->b∈foot (c.R++L):=λb=>(aP (pm.append_left c.R)).mem_iff.mpr
  show[an (S1.own (a,.dI fs) (Aa _ (.head _))) λkvs hD hE=>?_,Hu (knd:=Fz pw c.w) (k:=k) (by simp [DO,EC]) hD (λh' hD' hs=>?_) (by rw [hE.len,AQ];lia)]
  have ext:bx (foot (c.R++((a,aj.dI fs)::L₁))) (foot (c.R++((a,aj.dI fs)::L₁))) s.heap h':=⟨λb o e O hb=>(hs.2 b λq=>hb (q▸b7 (Aa _ (.head _)))).trans e,λO hb=>.inl hb⟩
  refine bS (S1.turn (x':=.dI (l9 fs k v)) (tk:=s.toks+1) (d:=a) (by simp [aM]) hs (fU hD') rfl ⟨_,hD',((hE.set (x3.memF mF)).mono ext)⟩) λT ev=>?_
  exact ⟨_,h,T,ev.more λb=>(aP pm).mem_iff.mpr⟩⟩
theorem ac6 {a:Addr} {fs:List (Str × V)} {L₁:ah} {k:Str} {v:V} {Q:ah->Prop} (hp:bW L a (.dS fs) L₁) (hz:fs.length≤100000) (h:Q ((a,.dS (l9 fs k v))::L₁)):g8 c n (.obj a) (.str k) v L Q X:=
 ⟨λA s r1 r2 r3 O O S x1 x2 x3=>by
  obtain ⟨_,rfl⟩:=x1.inv;refine aE x2.inv λO q1'=>?_;subst q1'
  have pm:=hp.perm
  have S1:=S.perm pm
  have mF:∀ b,b∈foot (c.R++((a,aj.dS fs)::L₁))->b∈foot (c.R++L):=λb=>(aP (pm.append_left c.R)).mem_iff.mpr
  show[an (S1.own (a,.dS fs) (Aa _ (.head _))) λkvs hD hE=>?_,Hu (knd:=strKind pw c.w) (k:=k) (by simp [Cy,CT]) hD (λh' hD' hs=>?_) (by rw [hE.len,AQ];lia)]
  have ext:bx (foot (c.R++((a,aj.dS fs)::L₁))) (foot (c.R++((a,aj.dS fs)::L₁))) s.heap h':=⟨λb o e O hb=>(hs.2 b λq=>hb (q▸b7 (Aa _ (.head _)))).trans e,λO hb=>.inl hb⟩
  refine bS (S1.turn (x':=.dS (l9 fs k v)) (tk:=s.toks+1) (d:=a) (by simp [aM]) hs (fU hD') rfl ⟨_,hD',((hE.set (x3.memF mF)).mono ext)⟩) λT ev=>?_
  exact ⟨_,h,T,ev.more λb=>(aP pm).mem_iff.mpr⟩⟩
variable {N:a8}
theorem alp {o i:Expr} {pos:Pos} {v:V} (h:bv c n env m (eval o env) L (λov L1=>bv c n env m (eval i env) L1 (λiv L2=>g8 c n ov iv v L2 (λL3=>N m L3) X) X) X):zW c env n m (assign (.Subscript o i pos) env) v L N X:=by
 intro A s r hb hf S V hv
 rw [arm_assign_Subscript]
 show[am (aH (pU h hb hf S V λro s1 ov L1 k S1 x1 e1 V1 hf1=>?_)),am (aH (ai (pU (P:=λri s2=>∃ iv L2,g8 c n ov iv v L2 (λL3=>N m L3) X∧St c L2 s2∧mO c L2 s2 iv ri∧b8 env L1 L2 s1 s2∧aA c s2.heap (foot (c.R++L2)) env m∧mP c A env s2.heap) k hb hf1 S1 V1 λri s2 iv L2 k2 S2 x2 e2 V2 hf2=>⟨iv,L2,k2,S2,x2,e2,V2,hf2⟩) (λri s2 g=>?_) λO O z=>z.after e1)),e25 g λiv L2 k2 S2 x2 e2 V2 hf2=>?_,bM (am (aH ?_))]
 have x12:=b8.ext V S1 e1
 have x23:=b8.ext V1 S2 e2
 show(dM (k2.go A s2 ro ri r hb hf2.ok S2 (x1.mono x23) x2 ((hv.mono x12).mono x23)) (λO s3 g=>?_) λO O z=>((z.leave hf2 S2 V2).after e2).after e1,ec g λL3 q S3 e3=>?_,.of (HD ⟨m,L3,q,S3,V2.evo S2 e3,(e1.trans e2).trans e3.toS⟩))
theorem ajl {a:Addr} {fs:List (Int × V)} {L₁:ah} {k:Int} {v:V} (hp:bW L a (.dI fs) L₁) (hz:fs.length≤100000) (hv:getD fs k=some v) (h:Q v ((a,.dI (ma fs k))::L₁)):ae c n (.builtin "dict.pop") [.obj a,.int k] L Q X:=
 .leaf λA s rvs O O S x=>by
  refine fg x.two λr1 r2 q1' x1 x2=>?_
  subst q1'
  obtain ⟨_,rfl⟩:=x1.inv;refine aE x2.inv λO q1'=>?_;subst q1'
  have pm:=hp.perm
  have S1:=S.perm pm
  refine an (S1.own (a,.dI fs) (Aa _ (.head _))) λkvs hD hE=>?_
  have z:=hE.get k
  rw [hv] at z
  show[an z λrv e1 e2=>?_,Gm Dk hD.typeIs Gn (FX _ _) (G3 (Fz pw c.w) a (k:=k) (by simp [DO,EC]) [] (.inl rfl) rfl) ⟨kvs,rv,hD,by rw [hE.len,AQ];exact Ai hz (by decide),e1,λh' hD' hs=>?_⟩]
  have ext:bx (foot (c.R++((a,aj.dI fs)::L₁))) (foot (c.R++((a,aj.dI fs)::L₁))) s.heap h':=⟨λb o e O hb=>(hs.2 b λq=>hb (q▸b7 (Aa _ (.head _)))).trans e,λO hb=>.inl hb⟩
  show(bS (S1.turn (x':=.dI (ma fs k)) (tk:=s.toks+1) (d:=a) (by simp [aM]) hs (fU hD') rfl ⟨_,hD',((hE.del k).mono ext)⟩) λT ev=>?_,⟨v,_,h,T,(e2.mono ev.ext),ev.more λb=>(aP pm).mem_iff.mpr⟩)
theorem ao6 {a:Addr} {fs:List (Str × V)} {L₁:ah} {k:Str} {v:V} (hp:bW L a (.dS fs) L₁) (hz:fs.length≤100000) (hv:getD fs k=some v) (h:Q v ((a,.dS (ma fs k))::L₁)):ae c n (.builtin "dict.pop") [.obj a,.str k] L Q X:=
 .leaf λA s rvs O O S x=>by
  refine fg x.two λr1 r2 q1' x1 x2=>?_
  subst q1'
  obtain ⟨_,rfl⟩:=x1.inv;refine aE x2.inv λO q1'=>?_;subst q1'
  have pm:=hp.perm
  have S1:=S.perm pm
  refine an (S1.own (a,.dS fs) (Aa _ (.head _))) λkvs hD hE=>?_
  have z:=hE.get k
  rw [hv] at z
  show[an z λrv e1 e2=>?_,Gm Dk hD.typeIs Gn (FX _ _) (G3 (Cy pw c.w) a (k:=k) (by simp [Cy,CT]) [] (.inl rfl) rfl) ⟨kvs,rv,hD,by rw [hE.len,AQ];exact Ai hz (by decide),e1,λh' hD' hs=>?_⟩]
  have ext:bx (foot (c.R++((a,aj.dS fs)::L₁))) (foot (c.R++((a,aj.dS fs)::L₁))) s.heap h':=⟨λb o e O hb=>(hs.2 b λq=>hb (q▸b7 (Aa _ (.head _)))).trans e,λO hb=>.inl hb⟩
  show(bS (S1.turn (x':=.dS (ma fs k)) (tk:=s.toks+1) (d:=a) (by simp [aM]) hs (fU hD') rfl ⟨_,hD',((hE.del k).mono ext)⟩) λT ev=>?_,⟨v,_,h,T,(e2.mono ev.ext),ev.more λb=>(aP pm).mem_iff.mpr⟩)
theorem ao7 {a:Addr} {fs:List (Str × V)} {k:Str} (hm:(a,aj.dS fs)∈c.R++L) (h:Q ((getD fs k).getD .none) L):ae c n (.builtin "dict.get") [.obj a,.str k] L Q X:=
 .leaf λA s rvs O O S x=>by
  refine fg x.two λr1 r2 q1' x1 x2=>?_
  subst q1'
  obtain ⟨_,rfl⟩:=x1.inv;refine aE x2.inv λO q1'=>?_;subst q1'
  show[an (S.own _ hm) λkvs hD hE=>?_,Gm GN hD.typeIs PySem.F.entry_dict_get (PySem.F.args_dict_get_2 _ _) (meets_dict_get (strKind pw c.w) (k:=k) a (by simp [Cy,CT]) (S.notMods (b7 hm))) ⟨_,hD.mapOf,?_⟩]
  have z:=hE.get k
  cases q:getD fs k with
  | none=>rw [q] at z h;rw [z];exact ay S h .none
  | some v=>
   rw [q] at z h
   refine an z λrv e1 e2=>?_
   rw [e1];exact ay S h e2
theorem qw {a:Addr} (hm:(∃ fs,(a,aj.dS fs)∈c.R++L)∨∃ fs,(a,aj.dI fs)∈c.R++L):∀ s r,St c L s->mO c L s (.obj a) r->s.TypeIs r "dict"∧∀ b,r=.ref b->∃ o,s.heap.get? b=some o∧o.dict=none:=by
 intro s r S x
 obtain ⟨_,rfl⟩:=x.inv
 rcases hm with ⟨fs,hm⟩ | ⟨fs,hm⟩
 ·show(an (S.own _ hm) λkvs hD hE=>?_,⟨hD.typeIs,hD.mapOf.noDict⟩)
 ·show(an (S.own _ hm) λkvs hD hE=>?_,⟨hD.typeIs,hD.mapOf.noDict⟩)
theorem ao8 {a:Addr} {fs:List (Int × V)} {args:List Expr} {pos:Pos} (hm:(a,aj.dI fs)∈c.R++L) (h:cI c n env m (AY pos (Ay args env)) L (λvs L1=>ae c n (.builtin "dict.pop") (.obj a::vs) L1 Q X) X) (hp:(AY pos (Ay args env)).any (·.1)=false):
 xh c n env m (Ab "pop") args pos (.obj a) L Q X:=ck (qw (.inr ⟨fs,hm⟩)) B6 Dk GO h hp
theorem ao9 {a:Addr} {fs:List (Str × V)} {args:List Expr} {pos:Pos} (hm:(a,aj.dS fs)∈c.R++L) (h:cI c n env m (AY pos (Ay args env)) L (λvs L1=>ae c n (.builtin "dict.pop") (.obj a::vs) L1 Q X) X) (hp:(AY pos (Ay args env)).any (·.1)=false):
 xh c n env m (Ab "pop") args pos (.obj a) L Q X:=ck (qw (.inl ⟨fs,hm⟩)) B6 Dk GO h hp
theorem apa {a:Addr} {fs:List (Str × V)} {args:List Expr} {pos:Pos} (hm:(a,aj.dS fs)∈c.R++L) (h:cI c n env m (AY pos (Ay args env)) L (λvs L1=>ae c n (.builtin "dict.get") (.obj a::vs) L1 Q X) X) (hp:(AY pos (Ay args env)).any (·.1)=false):
 xh c n env m (Ab "get") args pos (.obj a) L Q X:=ck (qw (.inl ⟨fs,hm⟩)) B6 GN PySem.F.type_dict_get h hp
theorem ac7 {pos:Pos} (h:∀ a,Q (.obj a) ((a,.dS [])::L)):bv c n env m (eval (.Dict [] [] pos) env) L Q X:=by
 intro A s hb hf S V
 show(.of (wpAny_Dict_empty ?_),bS (S.new (a:=s.heap.objs.size) (x:=.dS []) (h':=s.heap.push { cls:=.type "dict",data:=.dict #[] }) (tk:=s.toks) (λO O e=>Aj _ e) (λb hb=>by simp [aM] at hb;exact BM hb.symm) (by simp [aM]) ⟨[],EK _,.nil⟩) λS' ev=>?_,⟨_,_,h _,S',.obj _,ev⟩)
theorem ac8 {pos:Pos} (h:∀ a,Q (.obj a) ((a,.dI [])::L)):bv c n env m (eval (.Dict [] [] pos) env) L Q X:=by
 intro A s hb hf S V
 show(.of (wpAny_Dict_empty ?_),bS (S.new (a:=s.heap.objs.size) (x:=.dI []) (h':=s.heap.push { cls:=.type "dict",data:=.dict #[] }) (tk:=s.toks) (λO O e=>Aj _ e) (λb hb=>by simp [aM] at hb;exact BM hb.symm) (by simp [aM]) ⟨[],EK _,.nil⟩) λS' ev=>?_,⟨_,_,h _,S',.obj _,ev⟩)
theorem ag9 {pos:Pos} (h:∀ a,Q (.obj a) ((a,.lst [])::L)):bv c n env m (eval (.List [] pos) env) L Q X:=by
 intro A s hb hf S V
 show(xB (.of (EA ⟨by decide,?_⟩)),bS (S.new (a:=s.heap.objs.size) (x:=.lst []) (h':=s.heap.push { cls:=.type "list",data:=.seq ([]:List Ae).toArray }) (tk:=s.toks) (λO O e=>Aj _ e) (λb hb=>by simp [aM] at hb;exact BM hb.symm) (by simp [aM]) ⟨[],0,Ax _ rfl,.nil⟩) λS' ev=>?_,⟨_,_,h _,S',.obj _,ev⟩)
end
noncomputable def frC (env:Env) (p:Str × FW):Option (Str × Addr):=bif p.2==.free then (env.cells.lookup p.1).map λa=>(p.1,a) else none
noncomputable def r8 (scope:Scope) (env:Env):List (Str × Addr):=(scope.names.filterMap (frC env)).reverse
noncomputable def xU (scope:Scope) (m:Loc):Loc:=scope.names.filterMap λp=>match p.2 with
 | .free=>(m.lookup p.1).map λv=>(p.1,v)
 | _=>none
noncomputable def y5 (scope:Scope):List Str:=(scope.names.filter λp=>p.2==.free).map Ar
noncomputable def xV:Expr->Option Str
 | .Name x _=>some x
 | _=>none
theorem xW {e:Expr} {x:Str} (h:xV e=some x):∃ p,e=.Name x p:=by
 cases e with
 | Name y p=>cases h;exact ⟨p,rfl⟩
 | _=>cases h
noncomputable abbrev vI (elts:List Expr):List Str:=elts.filterMap xV
noncomputable def fV:Expr->List Str
 | .Name x _=>[x]
 | .Tuple elts _ _=>vI elts
 | _=>[]
noncomputable def jb (target:Expr) (scope:Scope) (env:Env):Bool:=
 scope.kind==.function&&scope.names.all (λp=>p.2 != .cell)&&scope.names.all (λp=>p.2 != .local||scope.names.lookup p.1==some .local)&&
 scope.names.all (λp=>p.2 != .free||(env.kindOf p.1==some .cell&&(env.cells.lookup p.1).isSome))&&(fV target).all (λx=>scope.names.lookup x==some .local&&!(y5 scope).contains x)&&
 kF (scope.names.map Ar)
theorem g9 {scope:Scope} {env:Env} (h:scope.names.all (λp=>p.2 != .free||(env.kindOf p.1==some .cell&&(env.cells.lookup p.1).isSome))=true):closureFor scope env=pure (r8 scope env):=by
 have key:∀ (l:List (Str × FW)) (dT:List (Str × Addr)),l.all (λp=>p.2 != .free||(env.kindOf p.1==some .cell&&(env.cells.lookup p.1).isSome))=true->
  (forIn l dT λ(x:Str × FW) (r:List (Str × Addr))=>(match x with
   | (name,kind)=>if (kind==B9)=true then do
    let y ← cellOf env name
    pure (De ((name,y)::r))
    else pure (De r):Sem (ForInStep (List (Str × Addr)))))=pure ((l.filterMap (frC env)).reverse++dT):=by
  intro l
  induction l with
  | nil=>intro dT _;rfl
  | cons p r ih=>
   intro dT h
   rw [HE,Al] at h
   rw [GD]
   by_cases q:(p.2==B9)=true
   ·have h1:=h.1
    rw [bne,q] at h1
    refine aE (Option.isSome_iff_exists.mp ((Al _ _).mp h1).2) λa ha=>?_
    have hc:cellOf env p.1=pure a:=by unfold cellOf;rw [ha]
    rw [List.filterMap_cons_some (b:=(p.1,a)) (by rw [frC,q,ha];rfl),FA,Aq]
    refine Iq ?_ (ih ((p.1,a)::dT) h.2)
    show (if (p.2==B9)=true then _ else _)>>=_=_
    rw [if_pos q,hc]
    rfl
   ·rw [List.filterMap_cons_none (by rw [frC,eq_false_of_ne_true q];rfl)]
    refine Iq ?_ (ih dT h.2)
    show (if (p.2==B9)=true then _ else _)>>=_=_
    rw [if_neg q]
    rfl
 unfold closureFor
 dsimp only
 have:=key scope.names [] h
 rw [A6] at this
 rw [show ∀ t:Sem (List (Str × Addr)),(t>>=λcs=>pure cs)=t from λt=>bind_pure t];exact this
theorem vJ {scope:Scope} {env:Env} {x:Str} {a:Addr}:(x,a)∈r8 scope env↔env.cells.lookup x=some a∧(x,B9)∈scope.names:=by
 rw [r8,List.mem_reverse,HW]
 constructor
 ·intro h
  refine an h λp hp e=>?_
  have e:(bif p.2==.free then (env.cells.lookup p.1).map λa=>(p.1,a) else none)=some (x,a):=e
  refine tA e λq e=>an (Option.map_eq_some_iff.mp e) λb hb e=>?_
  cases e
  exact ⟨hb,eq_of_beq q▸hp⟩
 ·intro h
  exact ⟨_,h.2,show (env.cells.lookup x).map _=_ by rw [h.1];rfl⟩
theorem eZ {scope:Scope} {env:Env} {x:Str} {a:Addr} (h:(r8 scope env).lookup x=some a):env.cells.lookup x=some a∧(x,B9)∈scope.names:=vJ.mp (mem_of_lookup h)
theorem ac9 {scope:Scope} {env:Env} {x:Str} {a:Addr} (h:(x,B9)∈scope.names) (ha:env.cells.lookup x=some a):(r8 scope env).lookup x=some a:=by
 cases q:(r8 scope env).lookup x with
 | none=>
  have z:=List.lookup_eq_none_iff.mp q _ (vJ.mpr ⟨ha,h⟩)
  rw [bne_self_eq_false] at z
  cases z
 | some b=>rw [← ha,(eZ q).1]
theorem uk {scope:Scope} {env:Env} {x:Str} {k:FW} (hnd:(scope.names.map Ar).Nodup) (h:(x,k)∈scope.names) (hk:env.scope.kind=.function) (hf:k=.free->env.kindOf x=some .cell):(Es scope env).names.lookup x=some (if k=.free then .cell else k):=by
 have fs:∀ (b:Bool) (y:Str) (k:FW),(if b=true then (y,NameKind.cell) else (y,k)).1=y:=λb y k=>by cases b <;> rfl
 refine ko ?_ (List.mem_map.mpr ⟨(x,k),h,?_⟩)
 ·have:(Es scope env).names.map Ar=scope.names.map Ar:=by
   show (scope.names.map _).map Ar=_
   rw [Aw]
   exact By λp O=>fs _ _ _
  rw [this];exact hnd
 ·show (if (k==B9&&env.scope.kind==.function&&env.kindOf x==some .cell)=true then (x,NameKind.cell) else (x,k))=_
  by_cases q:k=.free
  ·subst q
   rw [hf rfl,hk];rfl
  ·rw [beq_false_of_ne q,if_neg q];rfl
noncomputable def VRt (target:Expr) (h:Heap) (F:List Addr) (v:V) (rv:Ae):Prop:=VR h F v rv∨(∃ elts k p,target=.Tuple elts k p)∧∃ T l us,v=.tup l∧rv=.ref T∧h.IsTuple T ⟨us⟩∧bT h F l us
noncomputable abbrev oV (c:Cx) (C D:Addr) (o:List V):Cx:={ c with Fr:=C::c.Fr,R:=(D,.lst o)::c.R }
noncomputable def oy (elts:List Expr):List V->Loc->Option Loc:=
 elts.rec (λvs m=>match vs with
  | []=>some m
  | _::_=>none) λe O ih vs m=>match vs with
  | []=>none
  | v::vs=>(xV e).bind λx=>ih vs ((x,v)::m)
theorem nK {e:Expr} {elts:List Expr} {vs:List V} {m m1:Loc} (h:oy (e::elts) vs m=some m1):∃ x p v vs',e=.Name x p∧vs=v::vs'∧oy elts vs' ((x,v)::m)=some m1:=by
 cases vs with
 | nil=>cases h
 | cons v vs=>exact lG h λx hx h=>aE (xW hx) λp e=>⟨x,p,v,vs,e,rfl,h⟩
theorem nL {vs:List V} {m m1:Loc} (h:oy [] vs m=some m1):vs=[]∧m1=m:=by
 cases vs with
 | nil=>cases h;exact ⟨rfl,rfl⟩
 | cons v vs=>cases h
noncomputable def xX (target:Expr) (v:V) (m:Loc):Option Loc:=match target with
 | .Name x _=>some ((x,v)::m)
 | .Tuple elts _ _=>match v with
  | .tup vs=>oy elts vs m
  | _=>none
 | _=>none
theorem vK {target:Expr} {v:V} {m m1:Loc} {G:Prop} (h:xX target v m=some m1) (h1:∀ x p,target=.Name x p->m1=(x,v)::m->G) (h2:∀ elts k p l,target=.Tuple elts k p->v=.tup l->oy elts l m=some m1->G):G:=by
 cases target with
 | Name x p=>exact h1 x p rfl (AH h).symm
 | Tuple elts k p=>
  cases v with
  | tup l=>exact h2 elts k p l rfl rfl h
  | _=>cases h
 | _=>cases h
section
variable {c:Cx} {n:Nat} {env:Env} {m:Loc} {L:ah} {Q:ad} {X:ac}
theorem bF.wider {A:Around} {h:Heap} {C D:Addr} {o:List V} (x:bF c A h):bF (oV c C D o) A h:=by
 show[an x λl a b=>?_,⟨l,a,λe he=>?_⟩]
 obtain ⟨k,f,o,es,ep,h1,h2,h3⟩:=b e he
 exact ⟨k,f,o,es,ep,h1,.tail _ h2,h3⟩
theorem ada {A:Around}:∀ (elts:List Expr) {vs:List V} {rs:List Ae} {m m1:Loc} {s:Ad} {Q:Unit->Ad->Prop} {E:Ae->Ad->Prop},oy elts vs m=some m1->
 (vI elts).all (λx=>env.kindOf x==some .local)=true->St c L s->aA c s.heap (foot (c.R++L)) env m->tK c L s vs rs->
 (∀ h' tk,St c L { s with heap:=h',toks:=tk }->aA c h' (foot (c.R++L)) env m1->(∀ b,b≠env.locals->h'.get? b=s.heap.get? b)->Q () { s with heap:=h',toks:=tk })->
 AF (At pw c.w) A (Dh ((Bo elts env).map (·.2)) rs) Q E s:=by
 intro elts
 induction elts with
 | nil=>
  intro vs rs m m1 s Q E hg _ S V₁ hv h
  refine bS (nL hg) λq1' q2'=>?_
  subst q1'
  subst q2'
  cases hv
  exact An (h s.heap s.toks S V₁ λO O=>rfl)
 | cons e elts ih=>
  intro vs rs m m1 s Q E hg hk S V₁ hv h
  refine e42 (nK hg) λx p v vs' q1' q2' hg'=>?_
  subst q1'
  subst q2'
  have hk:=(Al _ _).mp (show (env.kindOf x==some NameKind.local&&(vI elts).all λx=>env.kindOf x==some .local)=true from hk)
  cases hv with
  | cons hv hvs=>
   show AF _ _ (Dh (assign (.Name x p) env::(Bo elts env).map (·.2)) (_::_)) Q E s
   refine wpAny_assignInOrder_more (D8 (V₁.storeL S hv (eq_of_beq hk.1) λh' tk S' V' O k'=>?_))
   have hvs':tK c L { s with heap:=h',toks:=tk } vs' _:=hvs.mono ⟨λb o e so O=>(k' b λq=>by
    obtain ⟨_,o',h1,h2⟩:=V₁.own (iG env)
    rw [q,h1] at e;cases e;exact h2 so).trans e,λO hb=>.inl hb⟩
   exact ih hg' hk.2 S' V' hvs' λh'' tk' S'' V'' k''=>h h'' tk' S'' V'' λb hb=>(k'' b hb).trans (k' b hb)
theorem alq {A:Around} {target:Expr} {v:V} {rv:Ae} {m1:Loc} {s:Ad} {Q:Unit->Ad->Prop} {E:Ae->Ad->Prop} (hh:A.handled=none) (hg:xX target v m=some m1) (hk:(fV target).all (λx=>env.kindOf x==some .local)=true)
 (S:St c L s) (V₁:aA c s.heap (foot (c.R++L)) env m) (hv:VRt target s.heap (foot (c.R++L)) v rv)
 (h:∀ h' tk,St c L { s with heap:=h',toks:=tk }->aA c h' (foot (c.R++L)) env m1->(∀ b o,b≠env.locals->s.heap.get? b=some o->h'.get? b=some o)->Q () { s with heap:=h',toks:=tk }):
 AF (At pw c.w) A (assign target env rv) Q E s:=by
 refine vK hg (λx p e1 e2=>?_) λelts k p l e1 e2 hg=>?_
 ·subst e1
  subst e2
  have hk:(env.kindOf x==some NameKind.local&&true)=true:=hk
  cases hv with
  | inl hv=>exact D8 (V₁.storeL S hv (eq_of_beq ((Al _ _).mp hk).1) λh' tk S' V' O k'=>h h' tk S' V' λb o hb e=>(k' b hb).trans e)
  | inr hv=>exact e30 hv.1 λO O O q=>by cases q
 ·subst e1
  subst e2
  have hv:∃ T us,rv=.ref T∧s.heap.IsTuple T ⟨us⟩∧bT s.heap (foot (c.R++L)) l us:=by
   cases hv with
   | inl hv=>cases hv with
    | @tup l rs a kk hF ho hs=>exact ⟨_,_,rfl,⟨_,ho,rfl,_,rfl⟩,hs⟩
   | inr hv=>
    refine jC hv.2 λT l us e1 e2 hT hs=>?_
    cases e1
    exact ⟨T,us,e2,hT,hs⟩
  refine fg hv λT us e hT hs=>?_
  subst e
  have len:∀ {elts:List Expr} {l:List V} {m m1:Loc},oy elts l m=some m1->(Bo elts env).length=l.length∧(Bo elts env).findIdx? (·.1)=none:=by
   intro elts
   induction elts with
   | nil=>intro l m m1 h;rw [(nL h).1];exact ⟨rfl,rfl⟩
   | cons e elts ih=>
    intro l m m1 h
    refine e42 (nK h) λx p v vs' q1' q2' h'=>?_
    subst q1'
    subst q2'
    show(bS (ih h') λa b=>?_,⟨by show (Bo elts env).length+1=_;rw [a];rfl,by show List.findIdx? _ ((false,_)::Bo elts env)=none;rw [Fc,b];rfl⟩)
  show[bS (len hg) λl1 l2=>?_,wpAny_assign_Tuple hh hT (by rw [l1,← hs.len];rfl) l2 λh₁ e=>?_]
  have kk:=S.ext e
  have S1:St c L { s with heap:=h₁ }:=S.all (t:=s.toks) kk
  have V1:aA c h₁ (foot (c.R++L)) env m:=V₁.keep (λb O o q=>kk b o q) (dN kk)
  exact ada elts hg hk S1 V1 (hs.mono (dN kk)) λh' tk S' V' k'=>h h' tk S' V' λb o hb q=>(k' b hb).trans (kk b o q)
theorem aad:∀ (elts:List Expr) {vs:List V} {m m1:Loc},oy elts vs m=some m1->∀ x v,m.lookup x=some v->x∉vI elts->m1.lookup x=some v:=by
 intro elts
 induction elts with
 | nil=>intro vs m m1 h x v e _;refine bS (nL h) λO q1'=>?_;subst q1';exact e
 | cons e elts ih=>
  intro vs m m1 h x v el hn
  refine e42 (nK h) λy p u vs' q1' q2' h'=>?_
  subst q1'
  subst q2'
  have hn:x∉y::vI elts:=hn
  refine ih h' x v ?_ λq=>hn (.tail _ q)
  rw [A7,beq_false_of_ne λq:x=y=>hn (by rw [q];exact .head _)];exact el
theorem adb {target:Expr} {v:V} {m m1:Loc} (h:xX target v m=some m1) {x:Str} {u:V} (e:m.lookup x=some u) (hn:x∉fV target):m1.lookup x=some u:=by
 refine vK h (λy p e1 e2=>?_) λelts k p l e1 e2 h'=>?_
 ·subst e1
  subst e2
  rw [A7,beq_false_of_ne λq:x=y=>hn (by rw [q];exact .head _)];exact e
 ·subst e1
  exact aad elts h' x u e hn
noncomputable def TurnOk (c:Cx) (n:Nat) (env:Env) (m:Loc) (ifs:List Expr) (elt:Expr) (L:ah) (r:Option V):Prop:=
 match ifs with
 | []=>bv c n env m (eval elt env) L (λv L'=>L'=L∧r=some v) (λO O=>False)
 | [t]=>lF c n env m (Bj t env (eval t env)) L (λb L'=>L'=L∧bZ b (bv c n env m (eval elt env) L (λv L'=>L'=L∧r=some v) (λO O=>False)) (r=none)) (λO O=>False)
 | _=>False
end
section
variable {c:Cx} {n:Nat} {env:Env} {m:Loc} {L:ah} {Q:ad} {X:ac}
structure mb (c:Cx) (cenv:Env) (mc:Loc) (L:ah) (s₁:Ad) (outs:List V) (D C:Addr) (s':Ad):Prop where
 st:St (oV c C D outs) L s'
 env:aA (oV c C D outs) s'.heap (foot ((oV c C D outs).R++L)) cenv mc
 evo:bD (foot L) (foot L) s₁ s'
 out:s₁.heap.get? D=none∧s₁.heap.get? C=none
noncomputable abbrev nM (scope:Scope) (env:Env) (C:Addr):Env:=compEnvC scope (r8 scope env) C env
theorem bT.snoc {h:Heap} {F:List Addr} {l:List V} {us:List Ae} {v:V} {r:Ae} (x:bT h F l us) (y:VR h F v r):bT h F (l++[v]) (us++[r]):=x.app (.cons y .nil)
theorem vL {scope:Scope} {y:Str} {u:V} (h:(y,u)∈xU scope m):(y,B9)∈scope.names∧m.lookup y=some u:=by
 refine an (List.mem_filterMap.mp h) λq1' hp e2=>?_
 obtain ⟨z,k⟩:=q1'
 cases k with
 | free=>
  have e2:(m.lookup z).map (λv=>(z,v))=some (y,u):=e2
  refine an (Option.map_eq_some_iff.mp e2) λu' h1 h2=>?_
  cases h2
  exact ⟨hp,h1⟩
 | _=>cases e2
theorem vM {D:Addr} {h:Heap}:bx (D::foot (c.R++L)) (foot (c.R++L)) h h:=⟨λO O e O O=>e,λO hb=>.inl (.tail _ hb)⟩
theorem St.close {C D:Addr} {o:List V} {s:Ad} (S:St (oV c C D o) L s):St c L s∧mO c L s (.list o) (.ref D):=by
 have nd:(C::c.Fr++(D::foot (c.R++L))).Nodup:=S.nd
 have nd1:(c.Fr++(D::foot (c.R++L))).Nodup:=(List.nodup_cons.mp nd).2
 have nd2:D∉foot (c.R++L):=(List.nodup_cons.mp (List.nodup_append.mp nd1).2.1).1
 refine ⟨⟨S.base,S.stat,λp hp=>(S.own p (.tail _ hp)).mono vM λO O O e=>e,?_,λa ha=>S.lo a ?_,S.gens,λa ha=>S.fr a (.tail _ ha)⟩,?_⟩
 ·show(nd1.sublist,(Ir _).append (List.sublist_cons_self _ _))
 ·rcases List.mem_append.mp ha with h | h
  ·exact Ag _ (.tail _ h)
  ·exact Aa _ (.tail _ h)
 ·show(oq (S.own (D,.lst o) (.head _)) λvs k h1 h2=>?_,.list nd2 h1 (h2.mono vM))
theorem aA.cx {c':Cx} {h:Heap} {F:List Addr} (x:aA c h F env m) (e:c'.Fr=c.Fr):aA c' h F env m:=
 ⟨x.kind,x.glob,x.blt,x.ns,x.cell,by rw [e];exact x.cells,x.inj,by rw [e];exact x.loc⟩
inductive ahb (c:Cx) (A:Around) (cenv:Env) (mc:Loc) (L:ah) (s:Ad) (l:List V) (f:V->Option V) (hT:Heap) (D C:Addr) (Stt:Nat->Heap->Prop) (k:Nat) (s':Ad):Prop
 | mk (i:Nat) (hi:i≤l.length) (hk:k=l.length+1 - i) (h0:mb c cenv mc L s ((l.take i).filterMap f) D C s') (h1:bF c A s'.heap) (h2:Stt i s'.heap) (h3:bx (foot (c.R++L)) (D::foot (c.R++L)) hT s'.heap) (h4:dX hT s'.heap)
theorem sR {elt target iter:Expr} {ifs:List Expr} {scope:Scope} {pos:Pos} {l:List V} {f:V->Option V} {A:Around} {s s₂:Ad} {RR:Ae->Addr->Result->Ad->Prop} {E:Ae->Ad->Prop} {it:Ae}
 (hb:jF n A) (hf:bF c A s.heap) (S:St c L s) (V₁:aA c s.heap (foot (c.R++L)) env m) (T:Itr (VRt target) c target L l s s₂ it) (hl:l.length≤1000000)
 (hk:jb target scope env=true)
 (turn:∀ C D o x,x∈l->∃ m1,xX target x (xU scope m)=some m1∧TurnOk (oV c C D o) n (nM scope env C) m1 ifs elt L (f x))
 (hRR:∀ D C s',mb c (nM scope env C) (xU scope m) L s (l.filterMap f) D C s'->RR (.ref D) C (.ok .next) s'):
 av (At pw c.w) A (newList []) (λdT s₃=>av (At pw c.w) A (GY scope env.globals (r8 scope env) [] env.qual none .none (some env)) (λcenv s₄=>
  bf (At pw c.w) A (.compStart (.ListComp elt [⟨target,iter,ifs,0⟩] scope pos) 0 it dT { cenv with scope:=Es scope env }) (RR dT cenv.locals) s₄) E s₃) E s₂:=by
 simp only [jb,Al,beq_iff_eq] at hk
 show[bS hk]
 clear hk
 intro q1' k6
 show[bS q1']
 clear q1'
 intro q2' k5
 show[bS q2']
 clear q2'
 intro q3' k4
 show[bS q3']
 clear q3'
 intro q4' k3
 refine bS q4' λk1 k2=>?_
 have k2':∀ x∈scope.names,x.2≠.cell:=λx hx=>by have:=List.all_eq_true.mp k2 x hx;simpa using this
 have knd:=lP k6
 have kfree:∀ x,(x,B9)∈scope.names->env.kindOf x=some .cell∧∃ a,env.cells.lookup x=some a:=λx hx=>by
  have:=List.all_eq_true.mp k4 _ hx
  simp only [bne_self_eq_false,Bool.false_or,Al,beq_iff_eq] at this
  exact ⟨this.1,Option.isSome_iff_exists.mp this.2⟩
 have ktgt:∀ x∈fV target,scope.names.lookup x=some .local∧x∉y5 scope:=λx hx=>by
  have:=List.all_eq_true.mp k5 x hx
  simp only [Al,beq_iff_eq,Bm,← Dy,List.contains_iff_mem] at this
  exact this
 obtain ⟨I,fp,wr,P,Stt,rfl,W,st0,hfp,hwr,hws,hP,keep,hT,tT,rfl⟩:=T
 have W:=W A hb.handled
 have hbig:1694≤hT.objs.size:=(S.all (t:=tT) keep).big
 refine .of (CP (.of (wpAny_newFunctionEnv k2' (by intro y hy;simp at hy) (λh₁ hns₁ hsb₁=>?_) k1)))
 dsimp only at hns₁ hsb₁ ⊢
 generalize hH2:hT.push { cls:=.type "list",dict:=none,data:=.seq ([]:List Ae).toArray }=H2 at hns₁ hsb₁ ⊢
 have hC:H2.objs.size=hT.objs.size+1:=by rw [← hH2,CY]
 generalize hD:hT.objs.size=D at hC ⊢
 generalize hCC:H2.objs.size=C at hC hns₁ hsb₁ ⊢
 have old:∀ b o,hT.get? b=some o->h₁.get? b=some o:=λb o e=>by
  have lt:=AZ e
  refine hsb₁.extBut b o (Cb (show b <C by rw [hC,← hD];exact Co lt)) (Aj _ ?_)
  rw [← hH2];exact Aj _ e
 have none_of:∀ b,D≤b->hT.get? b=none:=λb hb=>by
  cases q:hT.get? b with
  | none=>rfl
  | some o=>exact absurd (AZ q) (Nat.not_lt.mpr (hD▸hb))
 have none_s:∀ b,D≤b->s.heap.get? b=none:=λb hb=>by
  cases q:s.heap.get? b with
  | none=>rfl
  | some o=>have:=none_of b hb;rw [keep b o q] at this;cases this
 have DleC:D≤C:=by rw [hC,← hD];exact Br _
 have DC:D≠C:=Cb (by lia:(D:Nat) <C)
 have accE:h₁.get? D=some ⟨.type "list",.none,.seq ⟨[]⟩ 0,#[]⟩:=by
  refine hsb₁.extBut _ _ DC (Aj _ ?_)
  rw [← hH2,← hD];exact Ax _ rfl
 have old':∀ b o,s.heap.get? b=some o->h₁.get? b=some o:=λb o e=>old b o (keep b o e)
 let mc:=xU scope m
 let cenv:=nM scope env C
 have inF:∀ b,b∈c.Fr++foot (c.R++L)->∃ o,s.heap.get? b=some o:=λb hb=>by
  rcases List.mem_append.mp hb with q | q
  ·refine an (S.fr b q) λo e O=>?_;exact ⟨o,e⟩
  ·exact S.heap_of q
 have CnF:C∉c.Fr++foot (c.R++L):=λhm=>by refine aE (inF C hm) λo e=>?_;rw [none_s C DleC] at e;cases e
 have DnF:D∉c.Fr++foot (c.R++L):=λhm=>by refine aE (inF D hm) λo e=>?_;rw [none_s D (AL _)] at e;cases e
 have Bn:∀ b,D≤b->c.B.get? b=none:=λb hb=>by
  cases q:c.B.get? b with
  | none=>rfl
  | some o=>have:=S.base b o q;rw [none_s b hb] at this;cases this
 have big:∀ b,D≤b->2≤b:=λb hb=>Ai (Ai (by decide:2≤1694) (hD▸hbig)) hb
 have grow0:∀ {h':Heap},(∀ b o,s.heap.get? b=some o->h'.get? b=some o)->bx (foot (c.R++L)) (D::foot (c.R++L)) s.heap h':=λk=>⟨λb o e O O=>k b o e,λb hb=>(List.mem_cons.mp hb).elim (λq=>.inr (q▸none_s D (AL _))) .inl⟩
 have St₁:St (oV c C D []) L { s with heap:=h₁,toks:=tT }:=by
  refine ⟨λb o e=>old' b o (S.base b o e),S.stat,λp hp=>?_,?_,λa ha=>?_,S.gens,λa ha=>?_⟩
  ·rcases List.mem_cons.mp hp with rfl | hp
   ·exact ⟨[],0,accE,.nil⟩
   ·exact (S.own p hp).mono (grow0 old') λa O o e=>old' a o e
  ·show (C::c.Fr++(D::foot (c.R++L))).Nodup
   have:(C::D::(c.Fr++foot (c.R++L))).Nodup:=List.nodup_cons.mpr ⟨λhm=>(List.mem_cons.mp hm).elim (λq=>DC q.symm) CnF,List.nodup_cons.mpr ⟨DnF,S.nd⟩⟩
   exact (List.Perm.nodup_iff (AG _ AC)).mpr this
  ·have ha:a∈C::c.Fr++(D::foot (c.R++L)):=ha
   rcases List.mem_append.mp ha with ha | ha
   ·rcases List.mem_cons.mp ha with rfl | ha
    ·exact ⟨Bn _ DleC,big _ DleC⟩
    ·exact S.lo a (Ag _ ha)
   ·rcases List.mem_cons.mp ha with rfl | ha
    ·exact ⟨Bn _ (AL _),big _ (AL _)⟩
    ·exact S.lo a (Aa _ ha)
  ·rcases List.mem_cons.mp ha with rfl | ha
   ·show(e32 hns₁ λo es ep e d O=>?_,⟨o,e,λvs q=>by rw [d] at q;cases q⟩)
   ·refine an (S.fr a ha) λo e d=>?_;exact ⟨o,old' a o e,d⟩
 have En₁:aA (oV c C D []) h₁ (foot ((oV c C D []).R++L)) cenv mc:=by
  have capL:∀ y u,mc.lookup y=some u->(y,B9)∈scope.names∧m.lookup y=some u:=λy u e=>vL (mem_of_lookup e)
  refine ⟨k1,V₁.glob,V₁.blt,⟨_,hns₁,λy u e ky=>?_⟩,λy u e ky=>?_,λy a e=>?_,λy z a e1 e2=>?_,.head _⟩
  ·refine bS (capL y u e) λq1 O=>?_
   have:(Es scope env).names.lookup y=some .cell:=uk knd q1 V₁.kind λO=>(kfree y q1).1
   have ky:(Es scope env).names.lookup y=some .local:=ky
   rw [this] at ky;cases ky
  ·show(bS (capL y u e) λq1 q2=>?_,fg (V₁.cell y u q2 (.inl (kfree y q1).1)) λa rv h1 q1' h4=>?_,an q1' λoc h2 h3=>?_,⟨a,rv,ac9 q1 h1,⟨oc,old' _ _ h2,h3⟩,h4.mono (grow0 old')⟩)
  ·refine bS (eZ e) λh1 h2=>?_
   obtain ⟨h3,h4,u,oc,h5,h6⟩:=V₁.cells y a h1
   refine ⟨.tail _ h3,λq=>?_,u,oc,old' _ _ h5,h6⟩
   have q:a=C:=q
   exact CnF (q▸Ag _ h3)
  ·exact V₁.inj y z a (eZ e1).1 (eZ e2).1
 have kT:(fV target).all (λx=>cenv.kindOf x==some .local)=true:=List.all_eq_true.mpr λx hx=>by
  have:=GZ (env:=env) (ktgt x hx).1
  exact beq_iff_eq.mpr this
 have mcN:∀ x u,mc.lookup x=some u->x∉fV target:=λx u e hx=>by
  show(bS (vL (mem_of_lookup e)) λhp O=>?_,(ktgt x hx).2 (List.mem_map.mpr ⟨(x,.free),List.mem_filter.mpr ⟨hp,rfl⟩,rfl⟩))
 have wrT:∀ b∈wr,∃ o,hT.get? b=some o:=λb hb'=>let ⟨o,e,_⟩:=hws 0 _ st0 b hb';⟨o,e⟩
 have wrD:∀ b∈wr,b≠D∧b≠C∧b∉c.Fr++foot (c.R++L)∧c.B.get? b=none:=λb hb'=>by
  show[aE (wrT b hb') λo e=>?_,⟨λq=>(by rw [q,none_of D (AL _)] at e;cases e),λq=>(by rw [q,none_of C DleC] at e;cases e),λhm=>?_,?_⟩]
  ·refine aE (inF b hm) λo' e'=>?_;rw [hwr b hb'] at e';cases e'
  ·cases q:c.B.get? b with
   | none=>rfl
   | some o=>have:=S.base b o q;rw [hwr b hb'] at this;cases this
 have fpD:∀ b∈fp,b≠D∧b≠C∧b∉foot L:=λb hb'=>by
  obtain ⟨h1,_,o,e⟩:=hfp b hb'
  exact ⟨λq=>(by rw [q,none_of D (AL _)] at e;cases e),λq=>(by rw [q,none_of C DleC] at e;cases e),h1⟩
 have ev₁:bD (foot L) (foot L) s { s with heap:=h₁,toks:=tT }:=bD.all old'
 have loop:bf (At pw c.w) A (.compLoop (.ListComp elt [⟨target,iter,ifs,0⟩] scope pos) 0 (.ref I) (.ref D) cenv) (RR (.ref D) C) { s with heap:=h₁,toks:=tT }:=by
  refine rG (ahb c A cenv mc L s l f hT D C Stt) ?_ (l.length+1)
   ⟨0,BQ _,rfl,⟨St₁,En₁,ev₁,none_s D (AL _),none_s C DleC⟩,hf.evo S ev₁,W.frame 0 _ _ st0 λb O o e=>old b o e,
    ⟨λb o e O O=>old b o e,λb hb=>(List.mem_cons.mp hb).elim (λq=>.inr (q▸none_of D (AL _))) .inl⟩,.of λb o e=>⟨o,old b o e⟩⟩
  intro k s' hJJ
  obtain ⟨i,hi,rfl,⟨S',E',ev',o4,o5⟩,hf',st,ex,lv⟩:=hJJ
  have step:∀ h' tk,(∀ b o,b∉wr->s'.heap.get? b=some o->h'.get? b=some o)->
   mb c cenv mc L s ((l.take i).filterMap f) D C { s' with heap:=h',toks:=tk }∧bF c A h'∧bx (D::foot (c.R++L)) (D::foot (c.R++L)) s'.heap h':=by
   intro h' tk kp
   obtain ⟨S3,ex3,kf⟩:=S'.aside (tk:=tk) kp λb hb'=>by
    show[e03 (wrD b hb') λw1 w2 w3 w4=>?_,⟨λhm=>?_,λhm=>?_,w4,λo e so=>?_⟩]
    ·rcases List.mem_cons.mp hm with q | q
     ·exact w2 q
     ·exact w3 (Ag _ q)
    ·rcases List.mem_cons.mp hm with q | q
     ·exact w1 q
     ·exact w3 (Aa _ q)
    ·refine an (hws i _ st b hb') λo' e' no=>?_
     rw [e] at e';cases e';exact no so
   refine ⟨⟨S3,E'.keep kf ex3,⟨λb o e hn=>kp b o (λhm=>by rw [hwr b hm] at e;cases e) (ev'.keep b o e hn),.of λb o e=>?_,λb hb'=>.inl hb',ev'.os⟩,o4,o5⟩,?_,ex3⟩
   ·cases q:s'.heap.get? b with
    | none=>rw [ev'.live b q] at e;cases e
    | some o'=>exact ⟨o',kp b o' (λhm=>by rw [hwr b hm] at e;cases e) q⟩
   ·exact hf'.of λb o es ep hb' ho hd=>⟨o,es,ep,kp b o (λhm=>(wrD b hm).2.2.1 (Ag _ hb')) ho,hd⟩
  by_cases hlt:i <l.length
  ·show[.of <| W.turn i s' _ _ hlt st λv' s1 go=>?_,.of <| go _ λh' tk hv' st' kp=>?_,dR (step h' tk kp) λq1' hf3 ex3=>?_]
   obtain ⟨S3,E3,ev3,_⟩:=q1'
   have hx:l[i]?=some l[i]:=AB hlt
   have lv3:dX hT h':=.of λb o e=>by
    by_cases q:b∈wr
    ·refine an (hws _ _ st' b q) λo e O=>?_;exact ⟨o,e⟩
    ·cases z:s'.heap.get? b with
     | none=>rw [lv b z] at e;cases e
     | some o'=>exact ⟨o',kp b o' q z⟩
   have exT:bx (foot (c.R++L)) (D::foot (c.R++L)) hT h':=ex.trans ex3 lv
   have hvr:=hP i v' _ _ hv' _ hx exT
   show[an (turn C D ((l.take i).filterMap f) l[i] (IM hlt)) λm1 hm1 ht=>?_,.of <| alq (c:=oV c C D ((l.take i).filterMap f)) hb.handled hm1 kT S3 E3 hvr λh4 tk4 S4 E4 k4=>?_]
   have nl:∀ b,b≠C->∀ o,h'.get? b=some o->h4.get? b=some o:=λb hb' o e=>k4 b o hb' e
   have CnotSeq:∀ o,h'.get? C=some o->¬ seqObj o:=λo e=>by
    obtain ⟨_,o',h1,h2⟩:=E3.own (iG cenv)
    have h1:h'.get? C=some o':=h1
    rw [e] at h1;cases h1;exact h2
   have ex4:bx (D::foot (c.R++L)) (D::foot (c.R++L)) h' h4:=⟨λb o e so O=>nl b (λq=>CnotSeq o (q▸e) so) o e,λO hb'=>.inl hb'⟩
   have lv4:dX h' h4:=.of λb o e=>by
    by_cases q:b=C
    ·subst q;obtain ⟨_,o',h1,_⟩:=E4.own (iG cenv);exact ⟨o',h1⟩
    ·exact ⟨o,nl b q o e⟩
   have hf4:bF c A h4:=hf3.of λb o es ep hb' ho hd=>⟨o,es,ep,nl b (λq=>CnF (q▸Ag _ hb')) o ho,hd⟩
   have ev4:bD (foot L) (foot L) s { s' with heap:=h4,toks:=tk4 }:=⟨λb o e hn=>nl b (λq=>by rw [q,o5] at e;cases e) o (ev3.keep b o e hn),ev3.live.trans lv4,λb hb'=>.inl hb',ev3.os⟩
   have st4:Stt (i+1) h4:=W.frame (i+1) _ _ st' λb hbf o e=>nl b (fpD b hbf).2.1 o e
   have fin:∀ (s5:Ad) (outs':List V),St (oV c C D outs') L s5->aA (oV c C D outs') s5.heap (D::foot (c.R++L)) cenv m1->
    bD (foot L) (foot L) s s5->bF c A s5.heap->Stt (i+1) s5.heap->bx (foot (c.R++L)) (D::foot (c.R++L)) hT s5.heap->dX hT s5.heap->outs'=(l.take (i+1)).filterMap f->
    ∃ k',k' <l.length+1 - i∧ahb c A cenv mc L s l f hT D C Stt k' s5:=by
    intro s5 outs' S5 E5 ev5 hf5 st5 ex5 lv5 ho
    subst ho
    exact ⟨l.length+1 - (i+1),Hs (Co hlt) (Dz i),i+1,hlt,rfl,⟨S5,E5.sub λx u e=>adb hm1 e (mcN x u e),ev5,o4,o5⟩,hf5,st5,ex5,lv5⟩
   have hb1:jF n A:=hb
   have take1:(l.take (i+1)).filterMap f=(l.take i).filterMap f++(f l[i]).toList:=by
    rw [BE,hx,List.filterMap_append]
    cases q:f l[i] <;> simp [q]
   have elem:∀ (s5:Ad),St (oV c C D ((l.take i).filterMap f)) L s5->aA (oV c C D ((l.take i).filterMap f)) s5.heap (D::foot (c.R++L)) cenv m1->
    bD (foot L) (foot L) s s5->bF c A s5.heap->Stt (i+1) s5.heap->bx (foot (c.R++L)) (D::foot (c.R++L)) hT s5.heap->dX hT s5.heap->
    bv (oV c C D ((l.take i).filterMap f)) n cenv m1 (eval elt cenv) L (λv L'=>L'=L∧f l[i]=some v) (λO O=>False)->
    av (At pw c.w) A (eval elt cenv) (λx s₄=>av (At pw c.w) A (CR (.builtin "list.append") [.ref D,x]) (λO s₅=>∃ m_1,m_1 <l.length+1 - i∧ahb c A cenv mc L s l f hT D C Stt m_1 s₅) (CL (At pw c.w) A cenv λe s'=>RR (.ref D) C (.error e) s') s₄) (CL (At pw c.w) A cenv λe s'=>RR (.ref D) C (.error e) s') s5:=by
    intro s5 S5 E5 ev5 hf5 st5 ex5 lv5 he
    refine ai (he A s5 hb1 hf5.wider S5 E5) (λx s6 g=>?_) λO O g=>by obtain ⟨_,_,q,_⟩:=g;exact q.elim
    obtain ⟨y,L',⟨rfl,hy⟩,S6,hx6,e6⟩:=g
    have st6:Stt (i+1) s6.heap:=W.frame (i+1) _ _ st5 λb hbf o e=>e6.keep b o e (fpD b hbf).2.2
    have ext6:bx (D::foot (c.R++L')) (D::foot (c.R++L')) s5.heap s6.heap:=e6.ext (c:=oV c C D ((l.take i).filterMap f))
    have E6:=E5.evo S5 e6
    show[oq (S6.own (D,.lst ((l.take i).filterMap f)) (.head _)) λvs6 k6 hD6 hvs6=>?_,.of <| FY (items:=⟨vs6⟩) ⟨k6,hD6⟩ (λh7 hp7 hs7=>?_) ?_]
    ·refine aE hp7 λk7 hp7=>?_
     have k7':∀ b o,b≠D->s6.heap.get? b=some o->h7.get? b=some o:=λb o hb' e=>(hs7.2 b hb').trans e
     have ext7:bx (D::foot (c.R++L')) (D::foot (c.R++L')) s6.heap h7:=⟨λb o e O hn=>k7' b o (λq=>hn (q▸.head _)) e,λO hb'=>.inl hb'⟩
     have nd:(C::c.Fr++(D::foot (c.R++L'))).Nodup:=S6.nd
     have DnFr:∀ b∈C::c.Fr,b≠D:=λb hb' q=>(List.nodup_append.mp nd).2.2 b hb' D (.head _) q
     have DnL:∀ b∈foot (c.R++L'),b≠D:=λb hb' q=>(List.nodup_cons.mp (List.nodup_append.mp nd).2.1).1 (q▸hb')
     have S7:St (oV c C D ((l.take i).filterMap f++[y])) L' { s6 with heap:=h7 }:=by
      refine ⟨λb o e=>k7' b o (λq=>by rw [q,Bn D (AL _)] at e;cases e) (S6.base b o e),S6.stat,λp hp=>?_,S6.nd,S6.lo,S6.gens,λb hb'=>?_⟩
      ·rcases List.mem_cons.mp hp with rfl | hp
       ·refine ⟨vs6++[x],k7,?_,(hvs6.mono ext7).snoc (hx6.mono ext7)⟩
        simpa using hp7
       ·exact (S6.own p (.tail _ hp)).mono ext7 λa ha o e=>k7' a o (DnL a (cj hp ha)) e
      ·refine an (S6.fr b hb') λo e d=>?_;exact ⟨o,k7' b o (DnFr b hb') e,d⟩
     have E7:aA (oV c C D ((l.take i).filterMap f++[y])) h7 (D::foot (c.R++L')) cenv m1:=(E6.keep (c:=oV c C D ((l.take i).filterMap f)) (λb hb' o e=>k7' b o (DnFr b hb') e) ext7).cx rfl
     have lv7:dX s6.heap h7:=.of λb o e=>by
      by_cases q:b=D
      ·subst q;exact ⟨_,hp7⟩
      ·exact ⟨o,k7' b o q e⟩
     have e57:=ev5.trans e6
     have Ds:∀ b,b∈c.Fr++foot (c.R++L')->b≠D:=λb hb' q=>DnF (q▸hb')
     refine fin _ _ S7 E7 ⟨λb o e hn=>k7' b o (λq=>by rw [q,o4] at e;cases e) (e57.keep b o e hn),e57.live.trans lv7,λb hb'=>.inl hb',e57.os⟩ ?_ ?_ ((ex5.trans ext6 lv5).trans ext7 (lv5.trans e6.live)) ((lv5.trans e6.live).trans lv7) ?_
     ·exact (hf5.of λb o es ep hb' ho hd=>⟨o,es,ep,k7' b o (Ds b (Ag _ hb')) (e6.keep b o ho λq=>(S5.out (.tail _ hb')) q),hd⟩)
     ·exact W.frame (i+1) _ _ st6 λb hbf o e=>k7' b o (fpD b hbf).1 e
     ·rw [take1,hy];rfl
    ·have:vs6.length=((l.take i).filterMap f).length:=hvs6.len
     have h2:=DP f (l.take i)
     have h3:(l.take i).length≤l.length:=by rw [Cg];exact Nat.min_le_right _ _
     show vs6.length≤2 ^ 24
     lia
   have iA:f l[i]=none->∀ (s5:Ad),St (oV c C D ((l.take i).filterMap f)) L s5->aA (oV c C D ((l.take i).filterMap f)) s5.heap (D::foot (c.R++L)) cenv m1->bD (foot L) (foot L) s s5->bF c A s5.heap->Stt (i+1) s5.heap->
    bx (foot (c.R++L)) (D::foot (c.R++L)) hT s5.heap->dX hT s5.heap->∃ k',k' <l.length+1 - i∧ahb c A cenv mc L s l f hT D C Stt k' s5:=λhy s5 S5 E5 ev5 hf5 st5 ex5 lv5=>
    fin s5 _ S5 E5 ev5 hf5 st5 ex5 lv5 (by rw [take1,hy];exact (A6 _).symm)
   have ex04:=exT.trans ex4 lv3
   have lv04:=lv3.trans lv4
   cases ifs with
   | nil=>
    refine .of (wpAny_tests_nil ?_)
    rw [if_pos rfl]
    exact elem _ S4 E4 ev4 hf4 st4 ex04 lv04 ht
   | cons t ts=>
    cases ts with
    | nil=>
     refine ve (ai (ht A _ hb1 hf4.wider S4 E4) (λb s5 g=>?_) λO O g=>by obtain ⟨_,_,q,_⟩:=g;exact q.elim)
     obtain ⟨L',⟨rfl,g⟩,S5,e5⟩:=g
     have E5:=E4.evo S4 e5
     have ex45:bx (D::foot (c.R++L')) (D::foot (c.R++L')) h4 s5.heap:=e5.ext (c:=oV c C D ((l.take i).filterMap f))
     have st5:Stt (i+1) s5.heap:=W.frame (i+1) _ _ st4 λb hbf o e=>e5.keep b o e (fpD b hbf).2.2
     have hf5:bF c A s5.heap:=hf4.of λb o es ep hb' ho hd=>⟨o,es,ep,e5.keep b o ho (S4.out (.tail _ hb')),hd⟩
     cases b with
     | true=>
      rw [if_pos rfl]
      exact elem _ S5 E5 (ev4.trans e5) hf5 st5 (ex04.trans ex45 lv04) (lv04.trans e5.live) g
     | false=>
      rw [if_neg (by decide)]
      exact iA g _ S5 E5 (ev4.trans e5) hf5 st5 (ex04.trans ex45 lv04) (lv04.trans e5.live)
    | cons _ _=>exact ht.elim
  ·have hil:i=l.length:=EJ hi (Nat.not_lt.mp hlt)
   subst hil
   refine .of <| W.done s' _ _ st λh' tk kp=>?_
   have g:=(step h' tk kp).1
   rw [BU] at g
   exact hRR D C _ g
 exact pK loop (W.self 0 _ _ _ (W.frame 0 _ _ st0 λb O o e=>old b o e) loop)
end
section
variable {c:Cx} {n:Nat} {env:Env} {m:Loc} {L:ah} {Q:ad} {X:ac} {N:a8} {R:ad} {K:a8}
noncomputable def nN (c:Cx) (n:Nat) (env:Env) (m:Loc) (target elt:Expr) (ifs:List Expr) (scope:Scope) (L:ah) (l:List V) (f:V->Option V):Prop:=
 ∀ C D o x,x∈l->∃ m1,xX target x (xU scope m)=some m1∧TurnOk (oV c C D o) n (nM scope env C) m1 ifs elt L (f x)
theorem mb.facts {cenv:Env} {mc:Loc} {s₁:Ad} {outs:List V} {D C:Addr} {s':Ad} (x:mb c cenv mc L s₁ outs D C s') (e:cenv.locals=C):
 (∃ mm,s'.heap.Ns C mm)∧C∉c.Fr∧C∉foot (c.R++L)∧c.B.get? C=none∧∀ o,s'.heap.get? C=some o->¬ seqObj o:=by
 have nd:(C::c.Fr++(D::foot (c.R++L))).Nodup:=x.st.nd
 have nd1:=List.nodup_cons.mp nd
 show[an x.env.ns λmm h1 O=>?_,⟨⟨mm,e▸h1⟩,λq=>nd1.1 (Ag _ q),λq=>nd1.1 (Aa _ (.tail _ q)),(x.st.lo C (.head _)).1,λo ho=>?_⟩]
 obtain ⟨_,o',h1,h2⟩:=x.env.own (iG cenv)
 rw [e,ho] at h1;cases h1;exact h2
theorem sS {C:Addr} {h h':Heap} (hs:BS C h h'):∀ b o,b∉[C]->h.get? b=some o->h'.get? b=some o:=λb o hb e=>(hs.2 b λq=>hb (q▸.head _)).trans e
theorem asm {elt target iter:Expr} {ifs:List Expr} {scope:Scope} {pos:Pos}
 (h:cF (VRt target) c n env m target iter L (λl L1=>∃ f,l.length≤1000000∧nN c n env m target elt ifs scope L1 l f∧Q (.list (l.filterMap f)) L1) X)
 (hk:jb target scope env=true) (hs:∀ x,CQ iter env x=pure x):
 bv c n env m (eval (.ListComp elt [⟨target,iter,ifs,0⟩] scope pos) env) L Q X:=by
 intro A s hb hf S V
 rw [eval_ListComp]
 have hk':=hk
 simp only [jb,Al,beq_iff_eq] at hk'
 show[bS hk']
 clear hk'
 intro q1' k6
 show[bS q1']
 clear q1'
 intro q2' k5
 show[bS q2']
 clear q2'
 intro q3' k4
 show[bS q3']
 clear q3'
 intro q4' k3
 show[bS q4' λk1 k2=>?_,g7 (cl:=r8 scope env) (use:=none) rfl hs (g9 k4) k1 (λx hx hl=>?_) (h A s _ _ hb hf S V (λl L1 s1 si it g S1 e1 T=>?_) λO O z=>z)]
 ·have:=List.all_eq_true.mp k3 x hx
  simpa [hl] using this
 ·show[ec g λf hl ht hq=>?_,sR hb (hf.evo S e1) S1 (V.evo S e1) T hl hk ht λD C s2 ce=>?_,e04 (ce.facts rfl) λq1' c1 c2 c3 c4=>?_,aE q1' λmm hn=>?_,⟨mm,hn,λh' hs'=>?_⟩,bS ce.st.close λS2 v2=>?_]
  obtain ⟨S3,ex3,kf⟩:=S2.aside (tk:=s2.toks) (sS hs') λb hb'=>by
   rw [List.mem_singleton.mp hb'];exact ⟨c1,c2,c3,c4⟩
  refine ⟨_,L1,hq,S3,v2.mono ex3,e1.trans ⟨λb o e hn'=>(hs'.2 b λq=>?_).trans (ce.evo.keep b o e hn'),λb e=>?_,λO hb'=>.inl hb',ce.evo.os⟩⟩
  ·rw [q,ce.out.2] at e;cases e
  ·by_cases q:b=C
   ·rw [q];exact ce.out.2
   ·exact ce.evo.live b ((hs'.2 b q).symm.trans e)
theorem xY {x:Str} {px:Pos} {elt target iter:Expr} {ifs:List Expr} {scope:Scope} {lpos:Pos} {pos:Pos}
 (h:cF (VRt target) c n env m target iter L (λl L1=>∃ f,l.length≤1000000∧nN c n env m target elt ifs scope L1 l f∧N ((x,.list (l.filterMap f))::m) L1) X)
 (hk:jb target scope env=true) (hx:gx env x=true) (hsw:Hj (.ListComp elt [⟨target,iter,ifs,0⟩] scope lpos) (some (.Name x px)) pos.line env=pure true)
 (hs:∀ x,CQ iter env x=pure x):
 fD c env n m (exec (.Assign [.Name x px] (.ListComp elt [⟨target,iter,ifs,0⟩] scope lpos) pos) env) L N R K X:=by
 intro A s hb hf S V
 rw [exec_Assign_Name_used _ _ _ _ hsw]
 have hk':=hk
 simp only [jb,Al,beq_iff_eq] at hk'
 show[bS hk']
 clear hk'
 intro q1' k6
 show[bS q1']
 clear q1'
 intro q2' k5
 show[bS q2']
 clear q2'
 intro q3' k4
 show[bS q3']
 clear q3'
 intro q4' k3
 show[bS q4' λk1 k2=>?_,bM (am (am ?_)),g7 (cl:=r8 scope env) (use:=some (assign (.Name x px) env)) (Q:=λO s'=>av (At pw c.w) A (pure ()) (λO s1=>av (At pw c.w) A (pure Flow.next) (tN c env L s N R K) (pR c env A L s X) s1) (pR c env A L s X) s') rfl hs (g9 k4) k1 (λy hy hl=>?_) (h A s _ _ hb hf.ok S V (λl L1 s1 si it q S1 ev1 T=>?_) λO O z=>z.leave hf S V)]
 ·have:=List.all_eq_true.mp k3 y hy
  simpa [hl] using this
 ·have e1:b8 env L L1 s s1:=ev1.toS
  have V1:=V.evo S ev1
  have hf1:mP c A env s1.heap:=hf.evo S V V1 e1
  show[ec q λf hl ht hq=>?_,sR hb hf1.ok S1 V1 T hl hk ht λD C s2 ce=>?_,e04 (ce.facts rfl) λq1' c1 c2 c3 c4=>?_,aE q1' λmm hn=>?_,bS ce.st.close λS2 v2=>?_]
  have V2:=V1.evo S1 ce.evo
  refine .of <| D8 (V2.store S2 v2 hx λs3 S3 V3 e3=>?_)
  have nC:C∉ig env++foot L1:=λhm=>(List.mem_append.mp hm).elim (λq=>c1 (V2.own q).1) λq=>c2 (by rw [ar];exact Aa _ q)
  have kC:∀ o,s2.heap.get? C=some o->s3.heap.get? C=some o:=λo e=>e3.keep C o e nC
  show[e32 hn λoC es ep ho hd r=>?_,⟨mm,⟨oC,es,ep,kC _ ho,hd,r⟩,λh' hs'=>?_⟩]
  obtain ⟨S4,ex4,kf⟩:=S3.aside (tk:=s3.toks) (sS hs') λb hb'=>by
   rw [List.mem_singleton.mp hb']
   refine ⟨c1,c2,c3,λo e=>?_⟩
   rw [kC _ ho] at e;cases e;exact c4 _ ho
  have V4:=V3.keep kf ex4
  have ec:=(e1.trans ce.evo.toS).trans e3
  have nS:s.heap.get? C=none:=e1.live C ce.out.2
  refine aq (aq ⟨_,L1,hq,S4,V4,⟨λb o e hn'=>(hs'.2 b λq=>?_).trans (ec.keep b o e hn'),λb e=>?_,ec.grow,ec.os⟩⟩)
  ·rw [q,nS] at e;cases e
  ·by_cases q:b=C
   ·rw [q];exact nS
   ·exact ec.live b ((hs'.2 b q).symm.trans e)
end
theorem jc {w:World} {A:Around} {t:Expr} {I:Addr} {v:Ae} {s:Ad} {Q:Unit->Ad->Prop} {E:Ae->Ad->Prop} {ty:String} (ho:∃ o,s.heap.get? I=some o∧o.cls=.type ty)
 (hn:["enumerate","zip","dict_itemiterator","dict_reverseitemiterator","odict_iterator","itertools.zip_longest","itertools.pairwise"].contains ty=false) (h:Q () s):AF (At pw w) A (Dd t (.ref I) v) Q E s:=by
 refine an ho λo ho hc=>?_
 have core:∀ x y z,AF (At pw w) A (Dd (.Tuple x y z) (.ref I) v) Q E s:=by
  intro x y z
  cases v with
  | ref a=>
   refine Ac (CF ho ?_)
   cases o with | mk cls di data sl=>?_
   cases show cls=.type ty from hc
   cases data with
   | fields vs=>
    refine AA (if_neg ?_) h
    rw [hn]
    exact AK
   | _=>exact An h
  | _=>exact An h
 cases t with
 | Tuple x y z=>exact core x y z
 | List x z=>exact core x 0 z
 | _=>exact An h
theorem bT.at2 {h:Heap} {F:List Addr} {l:List V} {us:List Ae} (x:bT h F l us) {i:Nat} {v:V} {rv:Ae} (h1:l[i]?=some v) (h2:us[i]?=some rv):VR h F v rv:=by
 induction l generalizing us i with
 | nil=>cases i <;> cases h1
 | cons y l ih=>
  cases x with
  | cons a b=>
   cases i with
   | zero=>cases h1;cases h2;exact a
   | succ i=>exact ih b h1 h2
section
variable {c:Cx} {n:Nat} {env:Env} {m:Loc} {L:ah} {Q:ad} {X:ac}
theorem St.newAddr {s:Ad} (S:St c L s) {b:Addr} (hb:s.heap.get? b=none):b∉foot L∧b∉c.Fr∧b∉foot (c.R++L):=by
 have h3:b∉foot (c.R++L):=λhm=>by refine aE (S.heap_of hm) λo e=>?_;rw [hb] at e;cases e
 exact ⟨λhm=>h3 (by rw [ar];exact Aa _ hm),λhm=>(by refine an (S.fr b hm) λo e O=>?_;rw [hb] at e;cases e),h3⟩
theorem apb {a:Addr} (h:a∉foot (c.R++L)):a∉foot L:=λhm=>h (by rw [ar];exact Aa _ hm)
theorem bn {l:List V}:rH c (.list l) l L:=by
 show[⟨λA s r Q E hh S hv k=>?_⟩,jC hv.inv λvs ax nn q1' hF hg hs=>?_]
 subst q1'
 have hl:s.heap.IsList ax ⟨vs⟩:=⟨_,hg,rfl,_,rfl⟩
 have hne:ax≠s.heap.objs.size:=Cb (AZ hg)
 have kp:∀ b o,s.heap.get? b=some o->(s.heap.push { cls:=.type "list_iterator",data:=.fields #[.ref ax,.int 0 0] }).get? b=some o:=λb o e=>Aj _ e
 have hIg:=Ax s.heap (o:={ cls:=.type "list_iterator",data:=.fields #[.ref ax,.int 0 0] }) rfl
 refine D9 hl (k { s with heap:=s.heap.push { cls:=.type "list_iterator",data:=.fields #[.ref ax,.int 0 0] } } _ λtarget=>⟨s.heap.objs.size,[s.heap.objs.size,ax],[s.heap.objs.size],λi v O=>(⟨vs⟩:Array Ae)[i]?=some v,λi h=>h.IsListIter s.heap.objs.size ax i∧h.IsList ax ⟨vs⟩,rfl,λA hh=>?_,?_,λb hb=>?_,λb hb=>?_,λi h st b hb=>?_,λi rv h' F' hp v hv ex=>?_,kp,_,s.toks,rfl⟩)
 ·rw [← hs.len]
  exact Trn.ofWalks (Walks.list hh _ _ hne _) λi v s Q E O st q=>jc (ty:="list_iterator") (let ⟨o,a,b,_⟩:=st.1;⟨o,a,b⟩) (by decide) q
 ·exact ⟨⟨_,hIg,rfl,rfl⟩,⟨_,kp _ _ hg,rfl,_,rfl⟩⟩
 ·rcases List.mem_cons.mp hb with rfl | hb
  ·exact ⟨(S.newAddr (aL _)).1,.inl (S.newAddr (aL _)).2.1,_,hIg⟩
  ·rw [List.mem_singleton.mp hb]
   exact ⟨apb hF,.inr ⟨_,kp _ _ hg,_,_,rfl⟩,_,kp _ _ hg⟩
 ·rw [List.mem_singleton.mp hb];exact aL _
 ·rw [List.mem_singleton.mp hb]
  show(ec st.1 λo h1 h2 h3=>?_,⟨o,h1,λ⟨_,_,q⟩=>by rw [h3] at q;cases q⟩)
 ·exact ((hs.mono (dN kp)).at2 hv (by simpa using hp)).mono ex
theorem nO {b:List UInt8}:rH c (.bytes b) (b.map λx=>.int x.toNat) L:=by
 show[⟨λA s r Q E hh S hv k=>?_⟩,aE hv.inv λt q1'=>?_]
 subst q1'
 have kp:∀ a o,s.heap.get? a=some o->(s.heap.push { cls:=.type "bytes_iterator",data:=.fields #[.bytes ⟨b⟩ t,.int 0 0] }).get? a=some o:=λb o e=>Aj _ e
 have hIg:=Ax s.heap (o:={ cls:=.type "bytes_iterator",data:=.fields #[.bytes ⟨b⟩ t,.int 0 0] }) rfl
 refine FZ (k { s with heap:=s.heap.push { cls:=.type "bytes_iterator",data:=.fields #[.bytes ⟨b⟩ t,.int 0 0] } } _ λtarget=>⟨s.heap.objs.size,[s.heap.objs.size],[s.heap.objs.size],λi v O=>∃ c u,(⟨b⟩:Array UInt8)[i]?=some c∧v=.int (c.toNat:Int) u,λi h=>CN h s.heap.objs.size ⟨b⟩ t i,rfl,λA hh=>?_,?_,λb hb=>?_,λb hb=>?_,λi h st b hb=>?_,λi rv h' F' hp v hv ex=>?_,kp,_,s.toks,rfl⟩)
 ·rw [Af]
  exact Trn.ofWalks (KBw.walks hh _ ⟨b⟩ t) λi v s Q E O st q=>jc (ty:="bytes_iterator") (let ⟨o,a,b,_⟩:=st;⟨o,a,b⟩) (by decide) q
 ·exact ⟨_,hIg,rfl,rfl⟩
 ·rw [List.mem_singleton.mp hb]
  exact ⟨(S.newAddr (aL _)).1,.inl (S.newAddr (aL _)).2.1,_,hIg⟩
 ·rw [List.mem_singleton.mp hb];exact aL _
 ·rw [List.mem_singleton.mp hb]
  show(ec st λo h1 h2 h3=>?_,⟨o,h1,λ⟨_,_,q⟩=>by rw [h3] at q;cases q⟩)
 ·show[oq hp]
  clear hp
  intro ch u h1 q1'
  subst q1'
  rw [AE] at hv
  have h1:b[i]?=some ch:=by simpa using h1
  rw [h1] at hv
  cases hv
  exact .int _ _
noncomputable def gI (x:Str):List V:=x.cps.toList.map λc=>.str ⟨#[c]⟩
theorem y6 {x:Str}:rH c (.str x) (gI x) L:=by
 show[⟨λA s r Q E hh S hv k=>?_⟩,aE hv.inv λt q1'=>?_]
 subst q1'
 have fin:∀ ty:String,["enumerate","zip","dict_itemiterator","dict_reverseitemiterator","odict_iterator","itertools.zip_longest","itertools.pairwise"].contains ty=false->
  (∀ A':Around,A'.handled=none->Walks pw c.w A' s.heap.objs.size [s.heap.objs.size] [s.heap.objs.size] x.cps.size (SignAt x) (λi h=>h.IsStrIter s.heap.objs.size ty x t i))->
  Q (.ref s.heap.objs.size) { s with heap:=s.heap.push { cls:=.type ty,data:=.fields #[.str x t,.int 0 0] } }:=by
  intro ty ht hW
  have kp:∀ a o,s.heap.get? a=some o->(s.heap.push { cls:=.type ty,data:=.fields #[.str x t,.int 0 0] }).get? a=some o:=λb o e=>Aj _ e
  have hIg:=Ax s.heap (o:={ cls:=.type ty,data:=.fields #[.str x t,.int 0 0] }) rfl
  refine k { s with heap:=s.heap.push { cls:=.type ty,data:=.fields #[.str x t,.int 0 0] } } _ λtarget=>⟨s.heap.objs.size,[s.heap.objs.size],[s.heap.objs.size],λi v O=>SignAt x i v,λi h=>h.IsStrIter s.heap.objs.size ty x t i,rfl,λA hh=>?_,?_,λb hb=>?_,λb hb=>?_,λi h st b hb=>?_,λi rv h' F' hp v hv ex=>?_,kp,_,s.toks,rfl⟩
  ·unfold gI
   rw [Af,ER]
   exact Trn.ofWalks (hW A hh) λi v s Q E O st q=>jc (ty:=ty) (let ⟨o,a,b,_⟩:=st;⟨o,a,b⟩) ht q
  ·exact ⟨_,hIg,rfl,rfl⟩
  ·rw [List.mem_singleton.mp hb]
   exact ⟨(S.newAddr (aL _)).1,.inl (S.newAddr (aL _)).2.1,_,hIg⟩
  ·rw [List.mem_singleton.mp hb];exact aL _
  ·rw [List.mem_singleton.mp hb]
   show(ec st λo h1 h2 h3=>?_,⟨o,h1,λ⟨_,_,q⟩=>by rw [h3] at q;cases q⟩)
  ·show[oq hp]
   clear hp
   intro ch u h1 q1'
   subst q1'
   unfold gI at hv
   rw [AE,Array.getElem?_toList,h1] at hv
   cases hv
   exact .str _ _
 cases ha:x.cps.all (· <128)
 ·exact wpAny_pyIter_wide ha (fin "str_iterator" (by decide) λA' hA=>Walks.strWide hA _ x t)
 ·exact wpAny_pyIter_ascii ha (fin "str_ascii_iterator" (by decide) λA' hA=>Walks.strAscii hA _ x t)
end
section
variable {c:Cx} {n:Nat} {env:Env} {m:Loc} {L:ah} {Q:ad} {X:ac}
theorem ul {x:Str} {np pos:Pos} {args:List Expr} {f:Ae} {K:List V->ah->Prop} {A:Around} {s:Ad} {P:Ae->Ad->Prop} {E:Ae->Ad->Prop} (hk:env.kindOf x=some .globalImplicit) (hv:∀ P,gl P x=some f) (hc:∀ P,cX P f=true)
 (h:cI c n env m (AY pos (Ay args env)) L K X) (hb:jF n A) (hf:bF c A s.heap) (S:St c L s) (V:aA c s.heap (foot (c.R++L)) env m) (kx:∀ e s',bG c L s X e s'->E e s')
 (k:∀ vs L1 s1 rvs,K vs L1->St c L1 s1->tK c L1 s1 vs rvs->bD (foot L) (foot L1) s s1->av (At pw c.w) A (CR f rvs) P E s1)
 (hp:(AY pos (Ay args env)).any (·.1)=false) (hd:(x==("__debug__":Str))=false):
 av (At pw c.w) A (eval (.Call (.Name x np) args [] pos) env) P E s:=by
 refine dz (.of (BR V.kind hk ?_ hd))
 have w:av (At pw c.w) A (Do pos f [] (AY pos (Ay args env)) []) P E s:=by
  refine eu (P:=λh=>(K0 c.w.params).In h) (by rw [hp];rfl) (λh X=>cY (hc _) h X) (ew hp (ai (h A s hb hf S V) (λrvs s1 g=>?_) kx))
  obtain ⟨vs,L1,q,S1,x1,e1⟩:=g
  exact ⟨S1.K,k vs L1 s1 rvs q S1 x1 e1⟩
 exact vp (hv c.w.params) S V w
noncomputable def bN (k:Int):List V:=(CG k.toNat).map λ(i:Nat)=>V.int (Int.ofNat i)
theorem adc (P:Params):gl P "range"=some (.type "range"):=by kernel_rfl
theorem vN {target:Expr} {np pos:Pos} {args:List Expr} {K:List V->ah->Prop} (hk:env.kindOf "range"=some .globalImplicit)
 (h:cI c n env m (AY pos (Ay args env)) L (λvs L1=>∃ k:Int,vs=[.int k]∧0≤k∧k≤1000000000∧K (bN k) L1) X)
 (hp:(AY pos (Ay args env)).any (·.1)=false):cF VR c n env m target (.Call (.Name "range" np) args [] pos) L K X:=by
 intro A s P E hb hf S V kk kx
 show[ul hk adc (λO=>rfl) h hb hf S V kx (λvs L1 s1 rvs q S1 x1 e1=>?_) hp rfl,sC q]
 clear q
 intro k q1' k0 k1 hK
 subst q1'
 cases x1 with
 | cons hx hnil=>
 cases hnil
 refine aE hx.inv λt q1'=>?_
 subst q1'
 refine .of (call_range_1 ?_)
 have hr:IsRange (s1.heap.push { cls:=.type "range",data:=.fields #[.int 0 s1.toks,.int k t,.int 1 (s1.toks+1)] }) s1.heap.objs.size 0 k 1 s1.toks t (s1.toks+1):=Ax _ rfl
 generalize hH:s1.heap.push { cls:=.type "range",data:=.fields #[.int 0 s1.toks,.int k t,.int 1 (s1.toks+1)] }=H at hr ⊢
 have hsz:Builtin.Range.rangeSize 0 k 1=((k.toNat:Nat):Int):=by
  rw [rangeSize_one];split <;> lia
 refine .of <| wpAny_pyIter_range (s:={ s1 with heap:=H,toks:=s1.toks+1+1 }) hr (small_one (by lia) (by lia) (by lia) (by lia)) ?_
 rw [hsz]
 have kp1:∀ b o,s1.heap.get? b=some o->H.get? b=some o:=λb o e=>by rw [← hH];exact Aj _ e
 have hHs:s1.heap.objs.size <H.objs.size:=by rw [← hH,CY];exact Dz _
 have hIn:s1.heap.get? H.objs.size=none:=by
  cases z:s1.heap.get? H.objs.size with
  | none=>rfl
  | some o=>exact absurd (AZ z) (Nat.not_lt.mpr (DA hHs))
 have hIg:=Ax H (o:={ cls:=.type "range_iterator",data:=.fields #[G4 0,G4 ((k.toNat:Nat):Int),G4 1] }) rfl
 refine kk _ L1 s1 _ _ hK S1 e1 ⟨H.objs.size,[H.objs.size],[H.objs.size],λi v O=>∃ t,v=.int (0+(i:Int)) t,λi h=>IsRangeIter h H.objs.size (0+(i:Nat) * 1) ((k.toNat:Int) - (i:Nat)) 1,rfl,λA hh=>?_,?_,λb hb=>?_,λb hb=>?_,λi h st b hb=>?_,λi rv h' F' hp v hv ex=>?_,λb o e=>Aj _ (kp1 b o e),_,_,rfl⟩
 ·have:(bN k).length=k.toNat:=by unfold bN;rw [Af,Ba]
  rw [this]
  exact Trn.ofWalks (LCg.range_walks hh 0 k.toNat) λi v s Q E O st q=>jc (ty:="range_iterator") ⟨_,st,rfl⟩ (by decide) q
 ·show _=_
  rw [hIg]
  simp [G4]
 ·rw [List.mem_singleton.mp hb]
  exact ⟨(S1.newAddr hIn).1,.inl (S1.newAddr hIn).2.1,_,hIg⟩
 ·rw [List.mem_singleton.mp hb];exact hIn
 ·rw [List.mem_singleton.mp hb]
  exact ⟨_,st,λ⟨_,_,q⟩=>by cases q⟩
 ·show[aE hp]
  clear hp
  intro u q1'
  subst q1'
  unfold bN at hv
  rw [AE] at hv
  cases z:(CG k.toNat)[i]? with
  | none=>rw [z] at hv;cases hv
  | some j=>
   rw [z] at hv
   cases hv
   have:j=i:=by
    have:=List.getElem?_eq_some_iff.mp z
    refine aE this λO e=>?_
    rw [HX] at e;exact e.symm
   subst this
   rw [EU]
   exact .int _ _
theorem bV.atKeys {K:Type} {h:Heap} {F:List Addr} {es:List (K × V)} {kvs:List (K × Ae)} (x:bV h F es kvs):kvs.length=es.length∧∀ (i:Nat) (k:K) (u:Ae),kvs[i]?=some (k,u)->∃ v,es[i]?=some (k,v):=by
 induction x with
 | nil=>exact ⟨rfl,λi k u e=>by cases i <;> cases e⟩
 | cons hv hr ih=>
  refine ⟨congrArg Fb ih.1,λi k u e=>?_⟩
  cases i with
  | zero=>cases e;exact ⟨_,rfl⟩
  | succ i=>exact ih.2 i k u e
theorem vO {K:Type} [DecidableEq K] (knd:∀ w:World,KeyKind pw w K) {a:Addr} {es:List (K × V)} {vk:K->V} (hvk:∀ (w:World) (k:K) (v:Ae) (h:Heap) (F:List Addr),(knd w).is k v=true->VR h F (vk k) v)
 (ho:∀ s,St c L s->∃ kvs,s.heap.DictOf (knd c.w) a kvs∧bV s.heap (foot (c.R++L)) es kvs) (ha:∀ s,St c L s->a∉foot L∧a∉c.Fr∧2≤a):rH c (.obj a) (es.map λp=>vk p.1) L:=by
 refine ⟨λA s r Q E hh S hv k=>?_⟩
 obtain ⟨_,rfl⟩:=hv.inv
 show[an (ho s S) λkvs q1' he=>?_,jC q1' λo des ep hg hcls hd hr=>?_,dR (ha s S) λha1 ha2 ha3=>?_]
 have hm:s.heap.DictAt (knd c.w) a kvs ep:=⟨o,des,hg,hcls,hd,hr⟩
 have hne:a≠s.heap.objs.size:=Cb (AZ hg)
 have hsys:(a==HV)=false:=beq_eq_false_iff_ne.mpr λq=>by
  rw [q] at ha3;exact absurd ha3 (by decide)
 have kp:∀ b o,s.heap.get? b=some o->(s.heap.push { cls:=.type "dict_keyiterator",data:=.fields #[.ref a,.int 0 0,.int kvs.length 0,.int ep 0] }).get? b=some o:=λb o e=>Aj _ e
 have hIg:=Ax s.heap (o:={ cls:=.type "dict_keyiterator",data:=.fields #[.ref a,.int 0 0,.int kvs.length 0,.int ep 0] }) rfl
 refine wpAny_pyIter_dict hsys hm (k { s with heap:=s.heap.push { cls:=.type "dict_keyiterator",data:=.fields #[.ref a,.int 0 0,.int kvs.length 0,.int ep 0] } } _ λtarget=>⟨s.heap.objs.size,[s.heap.objs.size,a],[s.heap.objs.size],λi v O=>∃ k x,kvs[i]?=some (k,x)∧(knd c.w).is k v=true,λi h=>h.IsKeyIter s.heap.objs.size a i kvs.length ep∧h.DictAt (knd c.w) a kvs ep,rfl,λA hh=>?_,?_,λb hb=>?_,λb hb=>?_,λi h st b hb=>?_,λi rv h' F' hp v hv ex=>?_,kp,_,s.toks,rfl⟩)
 ·rw [Af,← he.atKeys.1]
  exact Trn.ofWalks (Walks.dictKeys hh _ _ hne _ _) λi v s Q E O st q=>jc (ty:="dict_keyiterator") (let ⟨o,a,b,_⟩:=st.1;⟨o,a,b⟩) (by decide) q
 ·exact ⟨⟨_,hIg,rfl,rfl⟩,⟨o,des,kp _ _ hg,hcls,hd,hr⟩⟩
 ·rcases List.mem_cons.mp hb with rfl | hb
  ·exact ⟨(S.newAddr (aL _)).1,.inl (S.newAddr (aL _)).2.1,_,hIg⟩
  ·rw [List.mem_singleton.mp hb]
   exact ⟨ha1,.inl ha2,_,kp _ _ hg⟩
 ·rw [List.mem_singleton.mp hb];exact aL _
 ·rw [List.mem_singleton.mp hb]
  show(ec st.1 λo h1 h2 h3=>?_,⟨o,h1,λ⟨_,_,q⟩=>by rw [h3] at q;cases q⟩)
 ·show[oq hp λky x h1 h2=>?_,aE (he.atKeys.2 i ky x h1) λu h3=>?_]
  rw [AE,h3] at hv
  cases hv
  exact hvk _ _ _ _ _ h2
theorem St.inR {a:Addr} {x:aj} {s:Ad} (S:St c L s) (hm:(a,x)∈c.R):a∉foot L∧a∉c.Fr∧2≤a:=by
 have ha:a∈foot c.R:=cj hm (by cases x <;> exact .head _)
 have hb:a∈foot (c.R++L):=by rw [ar];exact Ag _ ha
 exact ⟨S.outR ha,λhf=>(List.nodup_append.mp S.nd).2.2 a hf a hb rfl,(S.lo a (Aa _ hb)).2⟩
theorem sT {a:Addr} {es:List (Int × V)} (hm:(a,aj.dI es)∈c.R):rH c (.obj a) (es.map λp=>.int p.1) L:=
 vO (λw=>Fz pw w) (vk:=V.int) (λw k v h F e=>by refine aE (Iu e) λt q1'=>?_;subst q1';exact .int _ _) (λs S=>S.own _ (Ag _ hm)) λs S=>S.inR hm
theorem aae {a:Addr} {es:List (Str × V)} (hm:(a,aj.dS es)∈c.R):rH c (.obj a) (es.map λp=>.str p.1) L:=
 vO (λw=>strKind pw w) (vk:=V.str) (λw k v h F e=>by refine aE (Hv e) λt q1'=>?_;subst q1';exact .str _ _) (λs S=>S.own _ (Ag _ hm)) λs S=>S.inR hm
noncomputable abbrev hO (c:Cx) (P:ah):Cx:={ c with R:=c.R++P }
theorem jH {P:ah}:foot ((hO c P).R++L)=foot (c.R++(P++L)):=by show foot ((c.R++P)++L)=_;rw [Aq]
theorem St.lock {P:ah} {s:Ad} (S:St c (P++L) s):St (hO c P) L s:=by
 have e:c.R++(P++L)=(c.R++P)++L:=(Aq ..).symm
 exact ⟨S.base,S.stat,by have:=S.own;rw [e] at this;exact this,by have:=S.nd;rw [e] at this;exact this,by have:=S.lo;rw [e] at this;exact this,S.gens,S.fr⟩
theorem St.unlock {P:ah} {s:Ad} (S:St (hO c P) L s):St c (P++L) s:=by
 have e:(c.R++P)++L=c.R++(P++L):=Aq ..
 have own:=S.own
 have nd:=S.nd
 have lo:=S.lo
 have own:∀ p∈(c.R++P)++L,Own c.w s.heap (foot ((c.R++P)++L)) p:=own
 have nd:(c.Fr++foot ((c.R++P)++L)).Nodup:=nd
 have lo:∀ a∈c.Fr++foot ((c.R++P)++L),c.B.get? a=none∧2≤a:=lo
 rw [e] at own nd lo
 exact ⟨S.base,S.stat,own,nd,lo,S.gens,S.fr⟩
theorem bD.unlock {P L L':ah} {s s':Ad} (e:bD (foot L) (foot L') s s'):bD (foot (P++L)) (foot (P++L')) s s':=by
 rw [ar,ar]
 exact ⟨λb o h hn=>e.keep b o h λq=>hn (Aa _ q),e.live,λb hb=>(List.mem_append.mp hb).elim (λq=>.inl (Ag _ q)) λq=>(e.grow b q).imp (Aa _) id,e.os⟩
theorem kE.unlock {Fr:List Addr} {P L L':ah} {s s':Ad} (e:kE Fr (foot L) (foot L') s s'):kE Fr (foot (P++L)) (foot (P++L')) s s':=by
 rw [ar,ar]
 exact ⟨λb o h hn=>e.keep b o h λq=>hn (Aa _ q),e.live,λb hb=>(List.mem_append.mp hb).elim (λq=>.inl (Ag _ q)) λq=>(e.grow b q).imp (Aa _) id,e.os⟩
theorem bF.cx {c':Cx} {A:Around} {h:Heap} (x:bF c A h) (e:c'.Fr=c.Fr) (eB:c'.B=c.B):bF c' A h:=by
 show[an x λl a b=>?_,⟨l,a,λy hy=>?_⟩]
 obtain ⟨k,f,o,es,ep,h1,h2,h3,h4⟩:=b y hy
 exact ⟨k,f,o,es,ep,h1,e▸h2,eB▸h3,h4⟩
theorem alr {P:ah} {t:Sem Ae} (h:bv (hO c P) n env m t L (λv L'=>Q v (P++L')) (λC L'=>X C (P++L'))):bv c n env m t (P++L) Q X:=by
 intro A s hb hf S V
 have eF:=jH (c:=c) (L:=L) (P:=P)
 refine ai (h A s hb (hf.cx rfl rfl) S.lock (by rw [eF];exact V.cx rfl)) (λr s' g=>?_) λe s' g=>?_
 ·obtain ⟨v,L',q,S',hv,e⟩:=g
  exact ⟨v,P++L',q,S'.unlock,by have:VR s'.heap (foot ((hO c P).R++L')) v r:=hv;rw [jH] at this;exact this,e.unlock⟩
 ·obtain ⟨C,L',q,S',ex,ev⟩:=g
  exact ⟨C,P++L',q,S'.unlock,ex,ev.unlock⟩
end
section
variable {c:Cx} {n:Nat} {env:Env} {m:Loc} {L:ah} {Q:ad} {X:ac}
theorem cJ {b:List UInt8} (hz:b.length≤1000000) (h:Q (.int b.length) L):ae c n (.builtin "len") [.bytes b] L Q X:=by
 show[.leaf λA s rs hb hf S hv=>?_,an hv.one λr q1' hr=>?_]
 subst q1'
 refine aE hr.inv λt q1'=>?_
 subst q1'
 exact PySem.W.len_bytes (by show b.length≤_;lia) (ay S h (.int _ _))
theorem apc {x:Str} (hz:x.length≤1000000) (h:Q (.int x.length) L):ae c n (.builtin "len") [.str x] L Q X:=by
 show[.leaf λA s rs hb hf S hv=>?_,an hv.one λr q1' hr=>?_]
 subst q1'
 refine aE hr.inv λt q1'=>?_
 subst q1'
 exact P.len_str (by lia) (ay S h (.int _ _))
theorem sU {l:List V} (hz:l.length≤1000000) (h:Q (.int l.length) L):ae c n (.builtin "len") [.list l] L Q X:=by
 show[.leaf λA s rs hb hf S hv=>?_,an hv.one λr q1' hr=>?_]
 subst q1'
 refine jC hr.inv λvs a k q1' hF hg hs=>?_
 subst q1'
 have e:=hs.len
 exact GP (items:=⟨vs⟩) ⟨_,hg,rfl,_,rfl⟩ (by show (vs.length:Int) <_;lia) (ay S h (by show VR _ _ (.int l.length) (.int vs.length _);rw [← e];exact .int _ _))
theorem apd {k:Nat} (h:Q (.int k) L):ae c n (.builtin "ord") [.str ⟨#[k]⟩] L Q X:=by
 show[.leaf λA s rs hb hf S hv=>?_,an hv.one λr q1' hr=>?_]
 subst q1'
 refine aE hr.inv λt q1'=>?_
 subst q1'
 exact P.ord_of_char (ay S h (.int _ _))
theorem ape {i:Int} (h0:0≤i) (h1:i≤255) (h:Q (.str ⟨#[i.toNat]⟩) L):ae c n (.builtin "chr") [.int i] L Q X:=by
 show[.leaf λA s rs hb hf S hv=>?_,an hv.one λr q1' hr=>?_]
 subst q1'
 refine aE hr.inv λt q1'=>?_
 subst q1'
 exact P.chr_of_int (by simp only [GV,decide_eq_false_iff_not];lia) (ay S h (.str _ _))
theorem asn {i:Int} (h:Q (.int (if i <0 then -i else i)) L):ae c n (.builtin "abs") [.int i] L Q X:=by
 show[.leaf λA s rs hb hf S hv=>?_,an hv.one λr q1' hr=>?_]
 subst q1'
 refine aE hr.inv λt q1'=>?_
 subst q1'
 exact call_abs_int λu tk=>ay S h (.int _ _)
theorem xZ {a b:Int} (h:Q (.int (min a b)) L):ae c n (.builtin "min") [.int a,.int b] L Q X:=by
 show[.leaf λA s rs hb hf S hv=>?_,fg hv.two λr q q1' hr hq=>?_]
 subst q1'
 refine aE hr.inv λt q1'=>?_
 subst q1'
 cases hq with
 | int _ u=>exact min_two_ints hb.handled λh' tk k=>dC S h k (by
  by_cases e:b <a
  ·rw [if_pos e,F4 (Bf e)];exact .int _ _
  ·rw [if_neg e,I0 (Int.not_lt.mp e)];exact .int _ _)
theorem aaf {a b:Int} (h:Q (.int (max a b)) L):ae c n (.builtin "max") [.int a,.int b] L Q X:=by
 show[.leaf λA s rs hb hf S hv=>?_,fg hv.two λr q q1' hr hq=>?_]
 subst q1'
 refine aE hr.inv λt q1'=>?_
 subst q1'
 cases hq with
 | int _ u=>exact max_two_ints hb.handled λh' tk k=>dC S h k (by
  by_cases e:b>a
  ·rw [if_pos e,Cf (Bf e)];exact .int _ _
  ·rw [if_neg e,EH (Int.not_lt.mp e)];exact .int _ _)
theorem pb {h:Heap} {F:List Addr}:∀ {ns:List Int} {us:List Ae},bT h F (ns.map V.int) us->FC us ns:=by
 intro ns
 induction ns with
 | nil=>intro us x;cases x;exact .nil
 | cons k ns ih=>intro us x;cases x with | cons a b=>cases a with | int _ t=>exact .cons _ _ (ih b)
theorem ahc {ns:List Int} (hr:∀ k∈ns,0≤k∧k <256) (hz:ns.length≤1000000) (h:Q (.bytes (ns.map λk=>k.toNat.toUInt8)) L):ae c n (.type "bytes") [.list (ns.map .int)] L Q X:=by
 show[.leaf λA s rs hb hf S hv=>?_,an hv.one λr q1' hr'=>?_]
 subst q1'
 refine jC hr'.inv λvs a k q1' hF hg hs=>?_
 subst q1'
 have e:=hs.len
 rw [Af] at e
 exact call_bytes_ints (vs:=vs) (ns:=ns) ⟨_,hg,rfl,_,rfl⟩ (pb hs) hr (by show _≤2 ^ 24;lia) hb.handled λh' t k' kp=>dC S h kp (.bytes _ _)
theorem dY {s:Ad} {A:Around} {Q:Ae->Ad->Prop} {E:Ae->Ad->Prop} {a:Addr} {vs:List Ae} {k:Nat} (hg:s.heap.get? a=some ⟨.type "list",.none,.seq ⟨vs⟩ k,#[]⟩) (hh:A.handled=none)
 (h:∀ I Hh,Walks pw c.w A I [I,a] [I] vs.length (λi v=>vs[i]?=some v) (λi h=>h.IsListIter I a i∧h.IsList a ⟨vs⟩)->(Hh.IsListIter I a 0∧Hh.IsList a ⟨vs⟩)->s.heap.get? I=none->(∀ b∈[I,a],b <Hh.objs.size)->(∀ b o,s.heap.get? b=some o->Hh.get? b=some o)->Q (.ref I) { s with heap:=Hh }):
 AF (At pw c.w) A (II (.ref a)) Q E s:=by
 have hl:s.heap.IsList a ⟨vs⟩:=⟨_,hg,rfl,_,rfl⟩
 have hlt:=AZ hg
 have hne:a≠s.heap.objs.size:=Cb hlt
 have kp:∀ b o,s.heap.get? b=some o->(s.heap.push { cls:=.type "list_iterator",data:=.fields #[.ref a,.int 0 0] }).get? b=some o:=λb o e=>Aj _ e
 have hIg:=Ax s.heap (o:={ cls:=.type "list_iterator",data:=.fields #[.ref a,.int 0 0] }) rfl
 refine D9 hl (h s.heap.objs.size _ ?_ ⟨⟨_,hIg,rfl,rfl⟩,⟨_,kp _ _ hg,rfl,_,rfl⟩⟩ (aL _) (λb hb=>?_) kp)
 ·have W:=Walks.list (prog:=pw) (w:=c.w) hh s.heap.objs.size a hne ⟨vs⟩
  simpa using W
 ·rw [CY]
  rcases List.mem_cons.mp hb with rfl | hb
  ·exact Dz _
  ·rw [List.mem_singleton.mp hb];exact Co hlt
theorem apf {bs:List Bool} (h:Q (.bool (bs.all id)) L):ae c n (.builtin "all") [.list (bs.map .bool)] L Q X:=by
 show[.leaf λA s rs hb hf S hv=>?_,an hv.one λr q1' hr'=>?_]
 subst q1'
 refine jC hr'.inv λvs a k q1' hF hg hs=>?_
 subst q1'
 have eb:∀ {bs:List Bool} {us:List Ae},bT s.heap (foot (c.R++L)) (bs.map V.bool) us->us=bs.map Value.bool:=by
  intro bs
  induction bs with
  | nil=>intro us x;cases x;rfl
  | cons b bs ih=>intro us x;cases x with | cons p q=>cases p;rw [ih q];rfl
 have ev:=eb hs
 refine call_all_walk (dY (c:=c) hg (show A.in1.handled=none from hb.handled) λI Hh W st hI O kp=>⟨I,_,_,_,_,_,λi=>bs.getD i false,rfl,W,st,?_,λh' tk k'=>?_⟩)
 ·intro i v s Q E hp hq
  rw [ev,AE] at hp
  cases z:bs[i]? with
  | none=>rw [z] at hp;cases hp
  | some b=>
   rw [z] at hp;cases hp
   have hq:Q (bs.getD i false) s:=hq
   rw [Ak,z] at hq
   exact Ca hq
 ·have e1:((CG vs.length).all λi=>bs.getD i false)=bs.all id:=by
   rw [ev,Af]
   have:bs=(CG bs.length).map λi=>bs.getD i false:=by
    apply C2
    ·simp
    ·intro i h1 h2;simp [AB h1]
   conv=>rhs;rw [this]
   rw [List.all_map];rfl
  rw [e1]
  exact dC (t:=tk) S h (λb o e=>k' b o (λhm=>by rw [List.mem_singleton.mp hm,hI] at e;cases e) (kp b o e)) (.bool _)
theorem e9 (ns:List Int):∀ i,i≤ns.length->preSum (λj=>ns.getD j 0) i=(ns.take i).sum
 | 0,_=>rfl
 | i+1,h=>by
  show preSum _ i+ns.getD i 0=_
  have hi:i <ns.length:=h
  rw [e9 ns i (DA hi),BE,GG,Ak,AB hi]
  simp
theorem apg {ns:List Int} (hb0:∀ k∈ns,0≤k) (hb1:ns.sum <2 ^ 63) (h:Q (.int ns.sum) L):ae c n (.builtin "sum") [.list (ns.map .int)] L Q X:=by
 show[.leaf λA s rs hb hf S hv=>?_,an hv.one λr q1' hr'=>?_]
 subst q1'
 refine jC hr'.inv λvs a k q1' hF hg hs=>?_
 subst q1'
 have hi:=pb hs
 have el:vs.length=ns.length:=by rw [hs.len,Af]
 have nn:∀ (l:List Int),(∀ k∈l,0≤k)->0≤l.sum:=by
  intro l
  induction l with
  | nil=>intro _;exact BG _
  | cons k l ih=>intro h;rw [List.sum_cons];exact CH (h k (.head _)) (ih λq hq=>h q (.tail _ hq))
 have ts:∀ j,(ns.take j).sum≤ns.sum∧0≤(ns.take j).sum:=λj=>by
  refine ⟨?_,nn _ λq hq=>hb0 q (Dq hq)⟩
  have e:(ns.take j).sum+(ns.drop j).sum=ns.sum:=by rw [← GG,Bg]
  exact e▸Bd (nn (ns.drop j) λq hq=>hb0 q (G0 hq))
 have at_:∀ {us:List Ae} {ms:List Int},FC us ms->∀ (i:Nat) (v:Ae),us[i]?=some v->∃ t,v=.int (ms.getD i 0) t:=by
  intro us ms x
  induction x with
  | nil=>intro i v e;cases i <;> cases e
  | cons k t _ ih=>
   intro i v e
   cases i with
   | zero=>cases e;exact ⟨_,rfl⟩
   | succ i=>refine aE (ih i v e) λu q1'=>?_;subst q1';exact ⟨u,rfl⟩
 refine call_sum_walk (dY (c:=c) hg (show A.in1.handled=none from hb.handled) λI Hh W st hI hfp kp=>⟨I,_,_,_,_,_,λj=>ns.getD j 0,rfl,W,st,hfp,λi v hp=>at_ hi i v hp,λj hj=>?_,λh' tk t' k'=>?_⟩)
 ·rw [el] at hj
  rw [e9 ns (j+1) hj]
  have t1:=ts (j+1)
  have t2:=hb0 (ns.getD j 0) (by rw [Ak,AB hj];exact IM hj)
  have t3:ns.getD j 0≤(ns.take (j+1)).sum:=by
   rw [BE,GG,Ak,AB hj]
   have:=(ts j).2
   exact Au (DE this) (CO (congrArg _ (A9 _).symm))
  exact ⟨⟨Au (by decide) t2,Az (Au t3 t1.1) hb1⟩,Au (by decide) t1.2,Az t1.1 hb1⟩
 ·rw [el,e9 ns _ (AL _),BU]
  exact dC (t:=tk) S h (λb o e=>k' b o (λhm=>by rw [List.mem_singleton.mp hm,hI] at e;cases e) (kp b o e)) (.int _ _)
end
section
variable {prog:Program} {w:World} {A:Around} {E:Ae->Ad->Prop} {s:Ad} {b:Array UInt8} {t:Tok}
theorem mh {it:Addr} {i:Nat} {x:UInt8} {Q:Ae->Ad->Prop} (hit:CN s.heap it b t i) (hx:b[i]?=some x)
 (hQ:∀ h',CN h' it b t (i+1)->BS it s.heap h'->Q (.int (x.toNat:Int) s.toks) { s with heap:=h',toks:=s.toks+1 }):AF (At prog w) A (CM (.ref it)) Q E s:=by
 refine ec (id hit) λo ho hc hd=>?_
 unfold CM
 refine Ac (F5 (name:=HY "__next__") (EL hit) FL
  (El FL (EL hit) KBw.entry_next ?_ (KBw.args_next _)))
 show AF _ _ (field (.ref it) 0>>=_) _ _ s
 refine Ac (Ez ho hd (x:=.bytes b t) rfl ?_)
 show AF _ _ (if (G5 b t==B4)=true then _ else _) _ _ s
 rw [if_neg (show ¬ ((G5 b t==B4)=true) from AK)]
 show AF _ _ (field (.ref it) 1>>=_) _ _ s
 show[Ac (Ez ho hd (x:=.int i 0) rfl ?_),Ac (AA (a:=b) rfl ?_)]
 simp only [AX,hx]
 refine Ac (G6 ho hd (by simp) (Ac (wpAny_mkInt (An ⟨_,rfl,An (hQ _ ?_ (Cr ..))⟩))))
 exact ⟨_,BX _ ho (Obj.isFreed_of_fields (HZ hd _)),(Obj.cls_mapFields ..).trans hc,by
  rw [HZ hd];simp [G4]⟩
theorem nP {it:Addr} {i:Nat} {Q:Ae->Ad->Prop} (hh:A.handled=none) (hit:CN s.heap it b t i) (hx:b[i]?=none)
 (hE:∀ h' e,GW it s.heap h'->(∃ o,h'.get? e=some o∧o.cls=.type "StopIteration")->E (.ref e) { s with heap:=h' }):AF (At prog w) A (CM (.ref it)) Q E s:=by
 refine ec (id hit) λo ho hc hd=>?_
 unfold CM
 refine Ac (F5 (name:=HY "__next__") (EL hit) FL
  (El FL (EL hit) KBw.entry_next ?_ (KBw.args_next _)))
 show AF _ _ (field (.ref it) 0>>=_) _ _ s
 refine Ac (Ez ho hd (x:=.bytes b t) rfl ?_)
 show AF _ _ (if (G5 b t==B4)=true then _ else _) _ _ s
 rw [if_neg (show ¬ ((G5 b t==B4)=true) from AK)]
 show AF _ _ (field (.ref it) 1>>=_) _ _ s
 show[Ac (Ez ho hd (x:=.int i 0) rfl ?_),Ac (AA (a:=b) rfl ?_)]
 simp only [AX,hx]
 refine Ac (C7 (Ac (G6 ho hd (by simp) ?_)))
 show AF _ _ (newExc (.type "StopIteration") []>>=_) _ _ _
 show[Ac]
 simp only [newExc,newTuple]
 show[Ac (CP ?_ (by size_fits)),Ac (m:=firstArgMember _ _) (AA (a:=B4) (by first | rfl | (simp only [firstArgMember];rfl)) ?_),CP ?_ (by size_fits)]
 simp only [raiseNew]
 refine Ac (wpAny_handled ?_)
 rw [show A.in1.handled=none from hh]
 exact Ac (An (wpAny_throw (hE _ _ (((Cr ..).extBut.push _).push _) ⟨_,Ax _ rfl,rfl⟩)))
theorem x5 (hh:A.handled=none) (it:Addr) (b:Array UInt8) (t:Tok):
 Draws prog w A it [it] b.size (λi v=>∃ c u,b[i]?=some c∧v=.int (c.toNat:Int) u) (λi h=>CN h it b t i) where
 live:=λO O st=>let ⟨o,ho,_⟩:=st;⟨o,ho⟩
 frame:=λO O O st hk=>let ⟨o,ho,r⟩:=st;⟨o,hk it (by simp) o ho,r⟩
 item:=λi s Q E hi st hQ=>by
  show(mh st (x:=b[i]) (by simp [hi]) λh' hit' hs'=>?_,hQ _ h' (s.toks+1) ⟨_,_,by simp [hi],rfl⟩ hit' hs')
 done:=λs Q E st hE=>nP hh st (by simp) hE
theorem qx {α:Type} {M:Model} {A:Around} {E:Ae->Ad->Prop} {s:Ad} {a:α} {Q:α->Ad->Prop} (h:∀ a,Q a s):AF M A (pure a) Q E s:=An (h a)
set_option maxHeartbeats 1000000 in
theorem jd (b:Array UInt8) (t:Tok):
 Meets (BW.«enumerate.__new__» ⟨[.type "enumerate",.bytes b t],[]⟩) (λO R s=>
  R (.ok (.ret (.ref (s.heap.push { cls:=.type "bytes_iterator",data:=.fields #[.bytes b t,.int 0 0] }).objs.size)))
   { s with heap:=(s.heap.push { cls:=.type "bytes_iterator",data:=.fields #[.bytes b t,.int 0 0] }).push { cls:=.type "enumerate",data:=.fields #[.none,.bool false,.ref s.heap.objs.size,G4 0,.none,.none] } }):=
 .of_wp λprog w A R s h=>by
  obtain ⟨hp,g,d,tk,os⟩:=s
  have hsub:=sub_enumerate
  wp_walk
  refine wpAny_stack_any λst=>qx λb=>?_
  cases b
  ·wp_walk using FZ
   exact ⟨_,rfl,h⟩
  ·wp_walk using FZ
   exact ⟨_,rfl,h⟩
theorem je {Q:Ae->Ad->Prop}
 (h:∀ h',IsEnum h' (s.heap.objs.size+1) s.heap.objs.size 0 .none->CN h' s.heap.objs.size b t 0->h'.objs.size=s.heap.objs.size+2->
  (∀ b o,s.heap.get? b=some o->h'.get? b=some o)->Q (.ref (s.heap.objs.size+1)) { s with heap:=h' }):
 AF (At prog w) A (CR (.type "enumerate") [.bytes b t]) Q E s:=by
 refine Go F.called_enumerate (by decide) (F.typeCall_enumerate_1 _) (F.newCall_enumerate_1 _) (λobj=>Du obj _) F.entry_enumerate_new
  (jd b t) ?_
 have hz:(s.heap.push { cls:=.type "bytes_iterator",data:=.fields #[.bytes b t,.int 0 0] }).objs.size=s.heap.objs.size+1:=CY ..
 show _∧_
 rw [hz]
 have he:IsEnum ((s.heap.push { cls:=.type "bytes_iterator",data:=.fields #[.bytes b t,.int 0 0] }).push
  { cls:=.type "enumerate",data:=.fields #[.none,.bool false,.ref s.heap.objs.size,G4 0,.none,.none] }) (s.heap.objs.size+1) s.heap.objs.size 0 .none:=by
  have:=Ax (s.heap.push { cls:=.type "bytes_iterator",data:=.fields #[.bytes b t,.int 0 0] })
   (o:={ cls:=.type "enumerate",data:=.fields #[.none,.bool false,.ref s.heap.objs.size,G4 0,.none,.none] }) rfl
  rw [hz] at this;exact this
 refine ⟨⟨_,he,rfl⟩,h _ he ⟨_,Aj _ (Ax _ rfl),rfl,rfl⟩ (by rw [CY,hz]) λb o y=>Aj _ (Aj _ y)⟩
end
theorem Trn.ofWalksT {w:World} {A:Around} {elts:List Expr} {k:Nat} {pos:Pos} {I:Addr} {fp wr:List Addr} {n:Nat} {Pt:Nat->Array Ae->Prop} {Stt:Nat->Heap->Prop} {Mid:Nat->Addr->Heap->Prop} (W:WalksT pw w A I fp wr n Pt Stt Mid):
 Trn w A (.Tuple elts k pos) I fp wr n (λi v h=>∃ T vals,v=.ref T∧Pt i vals∧h.IsTuple T vals) Stt where
 frame:=W.frame
 turn:=λi s Q E hi st h=>W.item i s Q E hi st λT vals h' tk hP hsz hT hm hk=>h (.ref T) _ λQ' q=>W.go elts k pos i T _ Q' E hm λh'' st' hk'=>q h'' tk ⟨T,vals,rfl,hP,hT.at λo e=>hk' T o (W.apart i T _ hm) e⟩ st' λb o hb e=>hk' b o hb (hk b o hb e)
 done:=W.done
 self:=W.self
section
variable {c:Cx} {n:Nat} {env:Env} {m:Loc} {L:ah} {Q:ad} {X:ac}
noncomputable def ml:Nat->List UInt8->List V
 | _,[]=>[]
 | i,b::l=>.tup [.int i,.int b.toNat]::ml (i+1) l
theorem nQ:∀ (l:List UInt8) (i:Nat),(ml i l).length=l.length
 | [],_=>rfl
 | _::l,i=>congrArg Fb (nQ l (i+1))
theorem ade (l:List UInt8):∀ (i j:Nat) (x:UInt8),l[j]?=some x->(ml i l)[j]?=some (.tup [.int ((i+j:Nat):Int),.int x.toNat]):=by
 induction l with
 | nil=>intro i j x e;cases e
 | cons y l ih=>
  intro i j x e
  cases j with
  | zero=>cases e;rfl
  | succ j=>
   show (ml (i+1) l)[j]?=_
   rw [ih (i+1) j x e,CJ];rfl
theorem ahd (P:Params):gl P "enumerate"=some (.type "enumerate"):=by kernel_rfl
theorem x6 {elts:List Expr} {tk:Nat} {tpos:Pos} {np pos:Pos} {args:List Expr} {K:List V->ah->Prop} (hk:env.kindOf "enumerate"=some .globalImplicit)
 (h:cI c n env m (AY pos (Ay args env)) L (λvs L1=>∃ b:List UInt8,vs=[.bytes b]∧K (ml 0 b) L1) X)
 (hp:(AY pos (Ay args env)).any (·.1)=false):cF (VRt (.Tuple elts tk tpos)) c n env m (.Tuple elts tk tpos) (.Call (.Name "enumerate" np) args [] pos) L K X:=by
 intro A s P E hb hf S V kk kx
 show[ul hk ahd (λO=>rfl) h hb hf S V kx (λvs L1 s1 rvs q S1 x1 e1=>?_) hp rfl,an q]
 clear q
 intro b q1' hK
 subst q1'
 refine an x1.one λr q1' hr=>?_
 subst q1'
 refine aE hr.inv λt q1'=>?_
 subst q1'
 show[.of <| je λH he hit hsz kp=>?_,.of <| wpAny_pyIter_enum he ?_]
 have n1:s1.heap.get? (s1.heap.objs.size+1)=none:=by
  cases z:s1.heap.get? (s1.heap.objs.size+1) with
  | none=>rfl
  | some o=>exact absurd (AZ z) (Nat.not_lt.mpr (Br _))
 have n0:s1.heap.get? s1.heap.objs.size=none:=aL _
 refine kk _ L1 s1 _ _ hK S1 e1 ⟨s1.heap.objs.size+1,[s1.heap.objs.size+1,s1.heap.objs.size],[s1.heap.objs.size+1,s1.heap.objs.size],λi v h=>∃ T vals,v=.ref T∧(∃ t' x,(∃ c u,(⟨b⟩:Array UInt8)[i]?=some c∧x=.int (c.toNat:Int) u)∧vals=#[.int i t',x])∧h.IsTuple T vals,
  λi h=>(∃ old,IsEnum h (s1.heap.objs.size+1) s1.heap.objs.size i old)∧CN h s1.heap.objs.size ⟨b⟩ t i,rfl,λA hh=>?_,⟨⟨_,he⟩,hit⟩,λa ha=>?_,λa ha=>?_,λi h st a ha=>?_,λi rv h' F' hp v hv ex=>?_,kp,H,s1.toks,rfl⟩
 ·rw [nQ]
  have D:Draws pw c.w A.in1 s1.heap.objs.size [s1.heap.objs.size] (⟨b⟩:Array UInt8).size _ _:=x5 (show A.in1.handled=none from hh) s1.heap.objs.size ⟨b⟩ t
  have W:=WalksT.enumerateD D (s1.heap.objs.size+1) (by simp) (by simp) (by simp)
  exact Trn.ofWalksT W
 ·rcases List.mem_cons.mp ha with rfl | ha
  ·exact ⟨(S1.newAddr n1).1,.inl (S1.newAddr n1).2.1,_,he⟩
  ·rw [List.mem_singleton.mp ha]
   show(an hit λo e O=>?_,⟨(S1.newAddr n0).1,.inl (S1.newAddr n0).2.1,o,e⟩)
 ·rcases List.mem_cons.mp ha with rfl | ha
  ·exact n1
  ·rw [List.mem_singleton.mp ha];exact n0
 ·rcases List.mem_cons.mp ha with rfl | ha
  ·show[bS st]
   clear st
   intro q1' _
   show(aE q1' λold e=>?_,⟨_,e,λ⟨_,_,q⟩=>by cases q⟩)
  ·rw [List.mem_singleton.mp ha]
   obtain ⟨_,o,h1,h2,h3⟩:=st
   exact ⟨o,h1,λ⟨_,_,q⟩=>by rw [h3] at q;cases q⟩
 ·show[fg hp]
  clear hp
  intro T vals q1' q2' hT
  subst q1'
  show[oq q2']
  clear q2'
  intro t' x q3' q5'
  show[oq q3']
  clear q3'
  intro ch u h1 q4'
  subst q4'
  subst q5'
  have h1:b[i]?=some ch:=by simpa using h1
  rw [ade b 0 i ch h1] at hv
  cases hv
  rw [C9]
  exact .inr ⟨⟨_,_,_,rfl⟩,T,_,_,rfl,rfl,hT,.cons (.int _ _) (.cons (.int _ _) .nil)⟩
end
section
variable {c:Cx} {n:Nat} {env:Env} {m:Loc} {L:ah} {Q:ad} {X:ac}
theorem ahe {l r1 r2:Expr} {o1 o2:Ex} {pos:Pos}
 (h:bv c n env m (eval l env) L (λa L1=>bv c n env m (eval r1 env) L1 (λb L2=>bj c n (AU o1) a b L2 (λv L3=>∃ t,v=.bool t∧bZ t (bv c n env m (eval r2 env) L3 (λd L5=>bj c n (AU o2) b d L5 Q X) X) (Q (.bool false) L3)) X) X) X)
 (hm:IH [o1,o2] [r1,r2]=false):bv c n env m (eval (.Compare l [o1,o2] [r1,r2] pos) env) L Q X:=by
 intro A s hb hf S V
 refine ago (ops:=[]) (rs:=[]) (ai (h A s hb hf S V) (λa s1 g=>?_) λO O z=>z) hm
 obtain ⟨va,L1,k1,S1,xa,e1⟩:=g
 have V1:=V.evo S e1
 have f1:=hf.evo S e1
 refine tI (ops:=[]) (rs:=[]) (ai (k1 A s1 hb f1 S1 V1) (λb s2 g=>?_) λO O z=>z.after e1)
 obtain ⟨vb,L2,k2,S2,xb,e2⟩:=g
 have V2:=V1.evo S1 e2
 have f2:=f1.evo S1 e2
 have ec:=e1.trans e2
 refine dM (k2.go A s2 a b hb f2 S2 (xa.mono e2.ext) xb) (λv s3 g=>?_) λO O z=>z.after ec
 obtain ⟨vv,L3,⟨t,rfl,k3⟩,S3,xv,e3⟩:=g
 have V3:=V2.evo S2 e3
 have f3:=f2.evo S2 e3
 have sC:=ec.trans e3
 cases xv with
 | bool _=>
 refine .of (Ca ?_)
 cases t with
 | false=>exact ⟨_,L3,k3,S3,.bool _,sC⟩
 | true=>
  rw [if_pos rfl]
  refine tJ (ai (k3 A s3 hb f3 S3 V3) (λd s4 g=>?_) λO O z=>z.after sC)
  obtain ⟨vd,L5,k4,S4,xd,e4⟩:=g
  have e14:=sC.trans e4
  exact dM (k4.go A s4 b d hb (f3.evo S3 e4) S4 ((xb.mono e3.ext).mono e4.ext) xd) (λO O z=>z.after e14) λO O z=>z.after e14
theorem vP {l r1 r2:Expr} {o1 o2:Ex} {pos:Pos} {whole:Sem Ae} {Q:Bool->ah->Prop}
 (h:bv c n env m (eval l env) L (λa L1=>bv c n env m (eval r1 env) L1 (λb L2=>bj c n (AU o1) a b L2 (λv L3=>∃ t,v=.bool t∧bZ t (bv c n env m (eval r2 env) L3 (λd L5=>bj c n (AU o2) b d L5 (λv L6=>∃ t,v=.bool t∧Q t L6) X) X) (Q false L3)) X) X) X)
 (hm:IH [o1,o2] [r1,r2]=false):lF c n env m (Bj (.Compare l [o1,o2] [r1,r2] pos) env whole) L Q X:=by
 intro A s hb hf S V
 refine pI (ops:=[]) (rs:=[]) (ai (h A s hb hf S V) (λa s1 g=>?_) λO O z=>z) hm
 obtain ⟨va,L1,k1,S1,xa,e1⟩:=g
 have V1:=V.evo S e1
 have f1:=hf.evo S e1
 refine u7 (ops:=[]) (rs:=[]) (ai (k1 A s1 hb f1 S1 V1) (λb s2 g=>?_) λO O z=>z.after e1)
 obtain ⟨vb,L2,k2,S2,xb,e2⟩:=g
 have V2:=V1.evo S1 e2
 have f2:=f1.evo S1 e2
 have ec:=e1.trans e2
 refine dM (k2.go A s2 a b hb f2 S2 (xa.mono e2.ext) xb) (λv s3 g=>?_) λO O z=>z.after ec
 obtain ⟨vv,L3,⟨t,rfl,k3⟩,S3,xv,e3⟩:=g
 have V3:=V2.evo S2 e3
 have f3:=f2.evo S2 e3
 have sC:=ec.trans e3
 cases xv with
 | bool _=>
 refine .of (Ca ?_)
 cases t with
 | false=>exact ⟨L3,k3,S3,sC⟩
 | true=>
  rw [if_pos rfl]
  refine u8 (ai (k3 A s3 hb f3 S3 V3) (λd s4 g=>?_) λO O z=>z.after sC)
  obtain ⟨vd,L5,k4,S4,xd,e4⟩:=g
  have e14:=sC.trans e4
  refine dM (k4.go A s4 b d hb (f3.evo S3 e4) S4 ((xb.mono e3.ext).mono e4.ext) xd) (λv s5 g=>?_) λO O z=>z.after e14
  obtain ⟨vv,L6,⟨t,rfl,q⟩,S5,xv,e5⟩:=g
  cases xv with
  | bool _=>exact .of <| Ca ⟨L6,q,S5,e14.trans e5⟩
theorem als {x y:Expr} {pos:Pos} (h:bv c n env m (eval x env) L (λv L1=>∃ t,v=.bool t∧bZ t (bv c n env m (eval y env) L1 Q X) (Q (.bool false) L1)) X):bv c n env m (eval (.BoolOp .And [x,y] pos) env) L Q X:=by
 intro A s hb hf S V
 refine akw (ai (h A s hb hf S V) (λr1 s1 g1=>?_) λO O z=>z)
 obtain ⟨v1,L1,⟨t,rfl,k⟩,S1,x1,e1⟩:=g1
 cases x1 with
 | bool _=>
 refine .of (Ca ?_)
 cases t with
 | false=>exact ⟨_,L1,k,S1,.bool _,e1⟩
 | true=>exact ai (k A s1 hb (hf.evo S e1) S1 (V.evo S e1)) (λO O z=>z.after e1) λO O z=>z.after e1
theorem aph {R:ad} {K:a8} {N:a8} {test:Expr} {body orelse:List Stmt} {pos:Pos} (h:lF c n env m (Bj test env (eval test env)) L (λb L1=>bZ b (fD c env n m (Cw body env) L1 N R K X) (fD c env n m (Cw orelse env) L1 N R K X)) X):
 fD c env n m (exec (.If test body orelse pos) env) L N R K X:=by
 refine ash (λA s hb hf S V=>ai (h A s hb hf S V) (λb s' g=>?_) λO O z=>z)
 exact g.mono λO q=>by cases b <;> exact q
theorem adf {test body orelse:Expr} {pos:Pos} (h:lF c n env m (Bj test env (eval test env)) L (λb L1=>bZ b (bv c n env m (eval body env) L1 Q X) (bv c n env m (eval orelse env) L1 Q X)) X):
 bv c n env m (eval (.IfExp test body orelse pos) env) L Q X:=by
 refine ags (λA s hb hf S V=>ai (h A s hb hf S V) (λb s' g=>?_) λO O z=>z)
 exact g.mono λO q=>by cases b <;> exact q
theorem x7 {x:Expr} {rest:List Expr} {pos:Pos} {whole:Sem Ae} {Q:Bool->ah->Prop}
 (h:lF c n env m (Bj x env (eval x env)) L (λb L1=>bZ b (lF c n env m (Bj (.BoolOp .And rest pos) env whole) L1 Q X) (Q false L1)) X):lF c n env m (Bj (.BoolOp .And (x::rest) pos) env whole) L Q X:=by
 refine zT (λA s hb hf S V=>ai (h A s hb hf S V) (λb s' g=>?_) λO O z=>z)
 exact g.mono λO q=>by cases b <;> exact q
theorem aag {x:Expr} {rest:List Expr} {pos:Pos} {whole:Sem Ae} {Q:Bool->ah->Prop}
 (h:lF c n env m (Bj x env (eval x env)) L (λb L1=>bZ b (Q true L1) (lF c n env m (Bj (.BoolOp .Or rest pos) env whole) L1 Q X)) X):lF c n env m (Bj (.BoolOp .Or (x::rest) pos) env whole) L Q X:=by
 refine acl (λA s hb hf S V=>ai (h A s hb hf S V) (λb s' g=>?_) λO O z=>z)
 exact g.mono λO q=>by cases b <;> exact q
theorem um {b:Bool} {A B:Prop} (hb:b=true) (h:A):bZ b A B:=by subst hb;exact h
theorem fE {b:Bool} {A B:Prop} (hb:b=false) (h:B):bZ b A B:=by subst hb;exact h
theorem xj {b:Bool} {A B:Prop} (h1:b=true->A) (h2:b=false->B):bZ b A B:=by
 cases b
 ·exact h2 rfl
 ·exact h1 rfl
theorem c6 {α β:Type} (g:α->β) (l:List α):l.filterMap (λv=>some (g v))=l.map g:=by
 induction l with
 | nil=>rfl
 | cons a l ih=>exact congrArg (g a::·) ih
noncomputable def V.i:V->Int
 | .int i=>i
 | _=>0
noncomputable def V.s:V->Str
 | .str x=>x
 | _=>⟨#[]⟩
noncomputable def V.t:V->List V
 | .tup l=>l
 | _=>[]
theorem cF.vrt {target iter:Expr} {K:List V->ah->Prop} (h:cF VR c n env m target iter L K X):cF (VRt target) c n env m target iter L K X:=h.mono λO O O O=>.inl
theorem x8 {k:Int} {x:V} (h:x∈bN k):∃ i:Nat,(i:Int) <k∧x=.int i:=by
 refine an (List.mem_map.mp h) λi hi q1'=>?_
 subst q1'
 have:=List.mem_range.mp hi
 exact ⟨i,by lia,rfl⟩
theorem lj {k:Int}:(bN k).length=k.toNat:=by unfold bN;rw [Af,Ba]
end
theorem uq:B3 (.type "int") "__bytes__"=pure none:=by rw [Bb,AI];kernel_rfl
theorem int_index:B3 (.type "int") "__index__"=pure (some (.builtin "int.__index__")):=by rw [Bb,AI];kernel_rfl
theorem vQ:B3 (.type "bytes") "__bytes__"=pure (some (.builtin "bytes.__bytes__")):=by rw [Bb,AI];kernel_rfl
theorem oW {i:Int} (t:Tok) (h0:0≤i) (h1:i≤1000000):Meets (BW.«bytes.__new__» ⟨[.type "bytes",.int i t],[]⟩) (λO R s=>R (.ok (.ret (.bytes (I6 i.toNat 0) s.toks))) { s with toks:=s.toks+1 }):=by
 intro prog w A R s h
 unfold BW.«bytes.__new__»
 show[Ac (AA (a:=true) rfl ?_),B7 rfl,Ac (AA F.bm_sub ?_),B7 rfl,Ac (AA (F.bm_bind _) ?_),Ac (AA (a:=()) rfl ?_),Ac (AA (a:=()) rfl ?_),B7 rfl,Ac (AV (typeIs_int _ _ _) uq ?_),Ac (Ac (AA (a:=none) rfl (An ?_))),B7 rfl,Ac (AV (typeIs_int _ _ _) int_index ?_),B7 rfl,Ac (HG (AA (a:=i) rfl ?_))]
 dsimp only
 show[B7 (by unfold Builtin.Bytes.fitsIndex;simp;lia)]
 rw [if_neg (by lia)]
 rw [if_neg (by lia)]
 show(B7 (by unfold Eh;simp [AQ];lia),Ac (C7 (Ac (HH ?_ (by simp [AQ];lia)))),H0 rfl,An h)
theorem mq {b:Array UInt8} (t:Tok):Meets (BW.«bytes.__new__» ⟨[.type "bytes",.bytes b t],[]⟩) (λO R s=>R (.ok (.ret (.bytes b t))) s):=by
 intro prog w A R s h
 unfold BW.«bytes.__new__»
 show[Ac (AA (a:=true) rfl ?_),B7 rfl,Ac (AA F.bm_sub ?_),B7 rfl,Ac (AA (F.bm_bind _) ?_),Ac (AA (a:=()) rfl ?_),Ac (AA (a:=()) rfl ?_),B7 rfl,Ac (AV (AR _ _ _) vQ ?_)]
 dsimp only
 show(Ac (C7 ?_),Ac (AA (a:=.type "bytes") rfl ?_),H0 rfl,H0 rfl,An h)
section
variable {c:Cx} {n:Nat} {env:Env} {m:Loc} {L:ah} {Q:ad} {X:ac}
theorem pc {i:Int} (h0:0≤i) (h1:i≤1000000) (h:Q (.bytes (Bt i.toNat 0)) L):ae c n (.type "bytes") [.int i] L Q X:=by
 show[.leaf λA s rs hb hf S hv=>?_,an hv.one λr q1' hr=>?_]
 subst q1'
 refine aE hr.inv λt q1'=>?_
 subst q1'
 refine Go IW (by decide) (HI _) (Iv _) (λobj=>Du obj _) F.bm_entry (oW t h0 h1) ⟨AR _ _ _,?_⟩
 have e:I6 i.toNat (0:UInt8)=⟨Bt i.toNat 0⟩:=by simp
 rw [e]
 exact ay S h (.bytes _ _)
theorem mu {b:List UInt8} (h:Q (.bytes b) L):ae c n (.type "bytes") [.bytes b] L Q X:=by
 show[.leaf λA s rs hb hf S hv=>?_,an hv.one λr q1' hr=>?_]
 subst q1'
 refine aE hr.inv λt q1'=>?_
 subst q1'
 exact Go IW (by decide) (HI _) (Iv _) (λobj=>Du obj _) F.bm_entry (mq t) ⟨AR _ _ _,aN S h (.bytes _ _)⟩
end
section
variable {c:Cx} {n:Nat} {env:Env} {m:Loc} {L:ah} {Q:ad} {X:ac}
theorem St.freeze {a:Addr} {l:List V} {s:Ad} (S:St c ((a,.lst l)::L) s):St c L s∧mO c L s (.list l) (.ref a):=by
 have nd:=S.nd
 have e:foot (c.R++((a,.lst l)::L))=foot c.R++(a::foot L):=by rw [ar];rfl
 have nd2:(foot c.R++(a::foot L)).Nodup:=by rw [e] at nd;exact (List.nodup_append.mp nd).2.1
 have h1:a∉foot (c.R++L):=by
  rw [ar]
  intro hm
  rcases List.mem_append.mp hm with q | q
  ·exact (List.nodup_append.mp nd2).2.2 a q a (.head _) rfl
  ·exact (List.nodup_cons.mp (List.nodup_append.mp nd2).2.1).1 q
 have ex:bx (foot (c.R++((a,.lst l)::L))) (foot (c.R++L)) s.heap s.heap:=⟨λO O e O O=>e,λb hb=>.inl (by
  rw [e];rw [ar] at hb
  exact (List.mem_append.mp hb).elim (λq=>Ag _ q) λq=>Aa _ (.tail _ q))⟩
 show(oq (S.own (a,.lst l) (Aa _ (.head _))) λvs k hg hs=>?_,⟨St.suffix (G:=[(a,.lst l)]) S,.list h1 hg (hs.mono ex)⟩)
theorem cD.freeze {s s':Ad} {rv:Ae} (x:cD c L s (λv L'=>Q v L'∨∃ a l L1,v=.obj a∧bW L' a (.lst l) L1∧Q (.list l) L1) rv s'):cD c L s Q rv s':=by
 obtain ⟨v,L',q,S,hv,e⟩:=x
 rcases q with q | ⟨a,l,L1,rfl,hp,q⟩
 ·exact ⟨v,L',q,S,hv,e⟩
 ·obtain ⟨_,rfl⟩:=hv.inv
  show(bS ((S.perm hp.perm).freeze) λS1 v1=>?_,⟨_,L1,q,S1,v1,e.less λb hb=>?_⟩,fH (λp hq=>hp.perm.mem_iff.mpr (.tail _ hq)) b hb)
theorem ae.freeze {f:Ae} {vs:List V} (h:ae c n f vs L (λv L'=>Q v L'∨∃ a l L1,v=.obj a∧bW L' a (.lst l) L1∧Q (.list l) L1) X):ae c n f vs L Q X:=
 ⟨λA s r a b d e=>ai (h.go A s r a b d e) (λO O g=>g.freeze) λO O z=>z⟩
theorem ur {a:Addr} {l:List V} {v:V} {L₁:ah} (hp:bW L a (.lst l) L₁) (hz:l.length≤1000000) (h:Q .none ((a,.lst (l++[v]))::L₁)):ae c n (.builtin "list.append") [.obj a,v] L Q X:=by
 show[.leaf λA s rs hb hf S hv=>?_,fg hv.two λr q q1' hr hq=>?_]
 subst q1'
 cases hr
 have S1:=S.perm hp.perm
 show[oq (S1.own (a,.lst l) (Aa _ (.head _))) λvs k hg hs=>?_,FY (items:=⟨vs⟩) ⟨k,hg⟩ (λh' hp' hs'=>?_) (by show vs.length≤2 ^ 24;rw [hs.len];lia),aE hp' λk' hg'=>?_]
 have ex:bx (foot (c.R++((a,.lst l)::L₁))) (foot (c.R++((a,.lst l)::L₁))) s.heap h':=⟨λb o e O hb=>(hs'.2 b λq=>hb (by rw [q,ar];exact Aa _ (.head _))).trans e,λO hb=>.inl hb⟩
 have fp:∀ b,b∈foot (c.R++L)↔b∈foot (c.R++((a,.lst l)::L₁)):=λb=>by
  rw [ar,ar,DT,DT,(aP hp.perm).mem_iff]
 have hq':VR s.heap (foot (c.R++((a,.lst l)::L₁))) v q:=hq.mono ⟨λO O e O O=>e,λb hb=>.inl ((fp b).mpr hb)⟩
 show(bS (S1.turn (x':=.lst (l++[v])) (tk:=s.toks) (.head _) hs' ⟨_,hg'⟩ rfl ⟨vs++[q],k',by simpa using hg',(hs.mono ex).snoc (hq'.mono ex)⟩) λS' ev=>?_,⟨.none,_,h,S',.none,ev.more λb hb=>(aP hp.perm).mem_iff.mpr hb⟩)
theorem y7 {h:Heap} {F:List Addr}:∀ {ys:List Str} {us:List Ae},bT h F (ys.map V.str) us->StrsAre us ys:=by
 intro ys
 induction ys with
 | nil=>intro us x;cases x;exact .nil
 | cons y ys ih=>intro us x;cases x with | cons a b=>cases a with | str _ t=>exact .cons _ _ (ih b)
theorem alu {x:Str} {ys:List Str} (hz:(ys.map (·.length)).sum+ys.length * x.length≤16777216) (h:Q (.str (Iw x ys)) L):ae c n (.builtin "str.join") [.str x,.list (ys.map .str)] L Q X:=by
 show[.leaf λA s rs hb hf S hv=>?_,fg hv.two λr q q1' hr hq=>?_]
 subst q1'
 refine aE hr.inv λt q1'=>?_
 subst q1'
 cases hq with
 | @list _ vs a k hF hg hs=>exact join_list (items:=⟨vs⟩) ⟨_,hg,rfl,_,rfl⟩ (y7 hs) hz λt' k=>ay S h (.str _ _)
theorem alv {x:Str} {args:List Expr} {pos:Pos} (h:cI c n env m (AY pos (Ay args env)) L (λvs L1=>ae c n (.builtin "str.join") (.str x::vs) L1 Q X) X) (hp:(AY pos (Ay args env)).any (·.1)=false):xh c n env m (Ab "join") args pos (.str x) L Q X:=
 ck (λs r S x=>by cases x with | str _ t=>exact ⟨Ff _ _ _,λb q=>by cases q⟩) Gp PySem.F.slot_str_join PySem.F.type_str_join h hp
theorem ahf {x:Str} {args:List Expr} {pos:Pos} (h:cI c n env m (AY pos (Ay args env)) L (λvs L1=>ae c n (.builtin "str.split") (.str x::vs) L1 Q X) X) (hp:(AY pos (Ay args env)).any (·.1)=false):xh c n env m (Ab "split") args pos (.str x) L Q X:=
 ck (λs r S x=>by cases x with | str _ t=>exact ⟨Ff _ _ _,λb q=>by cases q⟩) Gp Da PySem.F.type_str_split h hp
theorem ajm {a:Addr} {l:List V} (hm:(a,aj.lst l)∈c.R++L):∀ s r,St c L s->mO c L s (.obj a) r->s.TypeIs r "list"∧∀ b,r=.ref b->∃ o,s.heap.get? b=some o∧o.dict=none:=by
 intro s r S x
 obtain ⟨_,rfl⟩:=x.inv
 show(oq (S.own _ hm) λvs k hg hs=>?_,⟨⟨_,hg,rfl⟩,λb q=>by cases q;exact ⟨_,hg,rfl⟩⟩)
theorem ahg {a:Addr} {l:List V} {args:List Expr} {pos:Pos} (hm:(a,aj.lst l)∈c.R++L) (h:cI c n env m (AY pos (Ay args env)) L (λvs L1=>ae c n (.builtin "list.append") (.obj a::vs) L1 Q X) X) (hp:(AY pos (Ay args env)).any (·.1)=false):xh c n env m (Ab "append") args pos (.obj a) L Q X:=
 ck (ajm hm) F6 slot_list_append type_list_append h hp
end
section
variable {c:Cx} {n:Nat} {env:Env} {m:Loc} {L:ah} {Q:ad} {X:ac}
theorem api {w:World} {A:Around} {E:Ae->Ad->Prop} {s:Ad} {x y:Ae} {Q:Ae->Ad->Prop} (h:AF (At pw w) A (contains y x) (λb s'=>Q (.bool b) s') E s):AF (At pw w) A (AU .In x y) Q E s:=by
 show AF _ _ (do return Value.bool (← contains y x)) _ _ s
 exact Ac (BC h (λO O g=>An g) λO O z=>z)
theorem adg {w:World} {A:Around} {E:Ae->Ad->Prop} {s:Ad} {x y:Ae} {Q:Ae->Ad->Prop} (h:AF (At pw w) A (contains y x) (λb s'=>Q (.bool (!b)) s') E s):AF (At pw w) A (AU .NotIn x y) Q E s:=by
 show AF _ _ (do return Value.bool (!(← contains y x))) _ _ s
 exact Ac (BC h (λO O g=>An g) λO O z=>z)
theorem x9 {ns:List Int} {l:List V} {k:Int} (e:l=ns.map .int) (h:Q (.bool (!ns.any (·==k))) L):bj c n (AU .NotIn) (.int k) (.tup l) L Q X:=by
 subst e
 show[⟨λA s r1 r2 O O S x1 x2=>?_⟩,aE x1.inv λt q1'=>?_]
 subst q1'
 refine jC x2.inv λvs a kk q1' hF hg hs=>?_
 subst q1'
 exact adg (contains_tuple_ints (items:=⟨vs⟩) ⟨_,hg,rfl,_,rfl⟩ (pb hs) (aN S h (.bool _)))
theorem aO {ns:List Str} {l:List V} {k:Str} (e:l=ns.map .str) (h:Q (.bool (ns.any (·==k))) L):bj c n (AU .In) (.str k) (.tup l) L Q X:=by
 subst e
 show[⟨λA s r1 r2 O O S x1 x2=>?_⟩,aE x1.inv λt q1'=>?_]
 subst q1'
 refine jC x2.inv λvs a kk q1' hF hg hs=>?_
 subst q1'
 exact api (contains_tuple_strs (items:=⟨vs⟩) ⟨_,hg,rfl,_,rfl⟩ (y7 hs) (aN S h (.bool _)))
end
theorem ya:mroOf (.type "bytearray")=pure [.type "bytearray",.type "object"]:=by rw [mroOf_type];kernel_rfl
theorem alw:B3 (.type "bytearray") "__new__"=pure (some (.builtin "bytearray.__new__")):=by rw [Bb,AI];kernel_rfl
theorem ut:Slot "bytearray" "__init__" "bytearray.__init__":=
 .of (owner:="bytearray") (n:="__init__") (by rw [Bb,AI];kernel_rfl) (by decide+kernel) (by decide+kernel) (by decide+kernel)
  (by first | exact .inl (by decide+kernel) | exact .inr (by decide+kernel)) (by rw [C3];kernel_rfl)
theorem aah:TypeCalled "bytearray" "bytearray.__new__" "bytearray.__init__":=
 ⟨by decide+kernel,by decide+kernel,⟨_,_,ya⟩,madeBy_type ya alw (by decide+kernel),by decide+kernel,by rw [C3];kernel_rfl,ut⟩
theorem vR:checkTypeCall "bytearray" ⟨[],[]⟩=pure ():=by kernel_rfl
theorem yb:Dx "bytearray.__new__" ⟨[.type "bytearray"],[]⟩=pure ():=by kernel_rfl
theorem r9:E9 table "bytearray.__init__"=some BW.«bytearray.__init__»:=by first | exact Em (by kernel_rfl) | exact En (by kernel_rfl)
theorem nR:Slot "bytearray" "extend" "bytearray.extend":=
 .of (owner:="bytearray") (n:="extend") (by rw [Bb,AI];kernel_rfl) (by decide+kernel) (by decide+kernel) (by decide+kernel)
  (by first | exact .inl (by decide+kernel) | exact .inr (by decide+kernel)) (by rw [C3];kernel_rfl)
theorem sf:PlainAttrs "bytearray":=
 ⟨⟨"bytearray.__getattribute__",by rw [Bb,AI];kernel_rfl,by decide+kernel⟩,by rw [Bb,AI];kernel_rfl⟩
theorem qy:FJ (.builtin "bytearray.extend")=pure (.type "method_descriptor"):=by show builtinType _=_;rw [Hw];kernel_rfl
theorem oX:E9 table "bytearray.extend"=some BW.«bytearray.extend»:=by first | exact Em (by kernel_rfl) | exact En (by kernel_rfl)
theorem uu:E9 table "bytearray.__new__"=some BW.«list.__new__»:=entryFor_alias (id':="list.__new__") (by kernel_rfl) rfl (by decide+kernel) (by kernel_rfl)
theorem mv:plainId "bytearray.__new__"=true:=by decide+kernel
set_option maxHeartbeats 4000000 in
theorem uv:("bytearray.__new__".splitOn ".__new__").headD ""="bytearray":=by simp+decide [String.splitOn,String.splitOnAux]
theorem uw:Di (.type "bytearray") (.type "bytearray")=pure true:=by rw [C3];kernel_rfl
theorem vS {w:World} {A:Around} {E:Ae->Ad->Prop} {s:Ad} {Q₁:Ae->Ad->Prop}
 (h:Q₁ (.ref s.heap.objs.size) { s with heap:=s.heap.push { cls:=.type "bytearray",data:=.bytearray #[] } }):
 Hf (At pw w) A (.call (.builtin "bytearray.__new__") ⟨[.type "bytearray"],[]⟩) (wants Q₁ E) s:=by
 show[codeAny_of_tree]
 show AF _ A.in1 (do Dx "bytearray.__new__" ⟨[.type "bytearray"],[]⟩;again (.builtin "bytearray.__new__" ⟨[.type "bytearray"],[]⟩)) _ _ s
 refine Ac (AA yb (An ⟨Eu mv _,codeAny_builtin_stack uu rfl λp st=>?_⟩))
 rw [ED mv _]
 have hsub:=uw
 have hown:=uv
 obtain ⟨hp,g,d,tk,os⟩:=s
 simp only [hown]
 wp_walk
 exact h
end Mine
namespace Mine
set_option maxHeartbeats 0
open PySem PySem.W PyProof.Rows PySem.Calls
theorem vT (obj:Ae):argsOk "bytearray.__init__" ⟨[obj],[]⟩:=by unfold argsOk;kernel_rfl
theorem qz:B3 (.type "bytearray") (("__release_buffer__":String):Str)=pure (some (.builtin "bytearray.__release_buffer__")):=by rw [Bb,AI];kernel_rfl
theorem adh:Fg "bytearray.__init__" "bytearray" ["source","encoding","errors"] [] []=pure [none,none,none]:=by kernel_rfl
section
variable {w:World} {A:Around} {E:Ae->Ad->Prop} {s:Ad} {R:Result->Ad->Prop}
theorem sj {a:Addr} {b:Array UInt8} {k:Nat} {Q:Bool->Ad->Prop} (hg:s.heap.get? a=some { cls:=.type "bytearray",data:=.bytearray b k }) (h:Q false s):AF (At pw w) A (B0 (.ref a)) Q E s:=by
 unfold B0 BN
 refine Ac (Ac (AV ⟨_,hg,rfl⟩ qz ?_))
 dsimp only
 rw [if_neg (by decide+kernel)]
 rw [show "bytearray.__release_buffer__".dropRight ("__release_buffer__".length+1)="bytearray" from by decide+kernel]
 exact Ac (Db (T:="bytearray") ⟨_,hg,rfl⟩ (AA uw (An h)))
theorem ux {a:Addr} {b:Array UInt8} {Q:Nat->Ad->Prop} (hg:s.heap.get? a=some { cls:=.type "bytearray",data:=.bytearray b 0 }) (h:Q 0 s):AF (At pw w) A (C4 (.ref a)) Q E s:=by
 unfold C4
 exact Ac (CF hg (An h))
theorem adi {a:Addr} {b:Array UInt8} {Q:Bool->Ad->Prop} (hg:s.heap.get? a=some { cls:=.type "bytearray",data:=.bytearray b 0 }) (h:Q false s):
 av (At pw w) A (Gk (.ref a) <||> (do return (← C4 (.ref a))>0)) Q E s:=by
 refine am (xz ?_)
 show av _ _ (do return decide ((← C4 (.ref a))>0)) _ _ _
 exact am (.of (ux hg (aq h)))
theorem vU {a:Addr} {b:Array UInt8} {f:Array UInt8->Array UInt8} {Q:Unit->Ad->Prop} (hg:s.heap.get? a=some { cls:=.type "bytearray",data:=.bytearray b 0 }) (hz:(f b).size≤1000000)
 (h:∀ h',h'.get? a=some { cls:=.type "bytearray",data:=.bytearray (f b) 0 }->BS a s.heap h'->Q () { s with heap:=h' }):
 AF (At pw w) A (Cs (.ref a) f) Q E s:=by
 unfold Cs updateBytearray
 dsimp only
 refine Ac (CF hg (Ac (wpAny_update hg ?_)))
 have e:(s.heap.update a (Obj.mapBytearray f)).get? a=some { cls:=.type "bytearray",data:=.bytearray (f b) 0 }:=BX _ hg rfl
 refine FV e ?_ (h _ e (Cr ..))
 show (if (f b).size>Dn then some "bytearray:memory" else none)=none
 rw [if_neg (by rw [AQ];lia)]
theorem aai {a:Addr} {Q:Ae->Ad->Prop} (hg:s.heap.get? a=some { cls:=.type "bytearray",data:=.bytearray #[] 0 })
 (h:∀ h',h'.get? a=some { cls:=.type "bytearray",data:=.bytearray #[] 0 }->BS a s.heap h'->Q .none { s with heap:=h' }):
 av (At pw w) A (CR (.builtin "bytearray.__init__") [.ref a]) Q E s:=by
 refine kB (cW (Eu ut.plain _) r9 (by decide+kernel) (ut.check _ _ _ _ _ _ _ _ ⟨_,hg,rfl⟩ (vT _) ?_))
 delta BW.«bytearray.__init__»
 show(am (t:=B0 (.ref a)) (.of (sj hg ?_)),am (t:=Fg "bytearray.__init__" "bytearray" ["source","encoding","errors"] [] []) (.of (AA adh ?_)),am (.of (AA (a:=()) rfl ?_)),am (.of (AA (a:=()) rfl ?_)),am (adi hg ?_),am (t:=Cs (.ref a) λO=>#[]) (.of (vU hg (by decide) λh' e hs=>?_)),am (.of (AA (a:=()) rfl ?_)),aq (h h' e hs))
theorem aaj {Q:Ae->Ad->Prop} (h:∀ h',h'.get? s.heap.objs.size=some { cls:=.type "bytearray",data:=.bytearray #[] 0 }->(∀ b o,s.heap.get? b=some o->h'.get? b=some o)->Q (.ref s.heap.objs.size) { s with heap:=h' }):
 av (At pw w) A (CR (.type "bytearray") []) Q E s:=by
 have ft:=aah
 refine kB (cy ?_ rfl)
 show av _ _ (callAny (.type "bytearray") _) _ _ _
 refine aq ⟨Fa _ (by decide+kernel),lN F.entry_type_call (by decide+kernel) ?_⟩
 rw [Around.under_plain (weight_type_call_type "bytearray" [] []) rfl]
 delta BW.«type.__call__»
 show av _ _ (if _ then _ else _) _ _ _
 rw [if_neg (ne_true_of_eq_false ft.notType)]
 show av _ _ (if _ then _ else _) _ _ _
 rw [if_neg (ne_true_of_eq_false ft.canCreate)]
 show[am (.of (AA vR ?_)),am (t:=mroOf (.type "bytearray")) (.of (AA ya ?_)),am (.of (AA ft.made (am (aq (am (aH ?_))))))]
 have hg:(s.heap.push { cls:=.type "bytearray",data:=.bytearray #[] 0 }).get? s.heap.objs.size=some { cls:=.type "bytearray",data:=.bytearray #[] 0 }:=Ax _ rfl
 refine .of (wpAny_call (codeAny_mono (vS (E:=λO O=>False) (Q₁:=λv s'=>v=.ref s.heap.objs.size∧s'={ s with heap:=s.heap.push { cls:=.type "bytearray",data:=.bytearray #[] } }) ⟨rfl,rfl⟩) λr s₁ hr=>?_))
 cases r with
 | error e=>exact hr.elim
 | ok f=>
 cases f with
 | ret v=>
  refine bS hr λq1' q2'=>?_
  subst q1'
  subst q2'
  show(am (.of (Ac (Db (T:="bytearray") ⟨_,hg,rfl⟩ (AA ft.sub ?_)))),am (aH (am (t:=IJ (.ref s.heap.objs.size) "__init__") (.of (AV ⟨_,hg,rfl⟩ ft.init.lookup ?_)))),aH (am (.of (AA (ft.init.bind _) ?_))),am (aai hg λh' e hs=>aq (aq (h h' e λb o e'=>?_))),(hs.2 b λq=>by rw [q,aL] at e';cases e').trans (Aj _ e'))
 | _=>exact hr.elim
end
end Mine
namespace Mine
set_option maxHeartbeats 0
open PySem PySem.W PyProof.Rows PySem.Calls
theorem dG:B3 (.type "bytes") "__buffer__"=pure (some (.builtin "bytes.__buffer__")):=by rw [Bb,AI];kernel_rfl
theorem aak:B3 (.type "bytes") (("__release_buffer__":String):Str)=pure none:=by rw [Bb,AI];kernel_rfl
theorem apj:Di (.type "bytes") (.type "bytes")=pure true:=by rw [C3];kernel_rfl
theorem yc (a b:Ae):argsOk "bytearray.extend" ⟨[a,b],[]⟩:=by unfold argsOk;kernel_rfl
section
variable {w:World} {A:Around} {E:Ae->Ad->Prop} {s:Ad}
theorem nT {b:Array UInt8} {t:Tok} {Q:Bool->Ad->Prop} (h:Q true s):AF (At pw w) A (BN (.bytes b t) "__buffer__") Q E s:=by
 unfold BN
 refine Ac (AV (AR _ _ _) dG ?_)
 dsimp only
 rw [if_neg (by decide+kernel),show "bytes.__buffer__".dropRight ("__buffer__".length+1)="bytes" from by decide+kernel]
 exact Ac (Db (T:="bytes") (AR _ _ _) (AA apj h))
theorem b_buffer? {id:String} {b:Array UInt8} {t:Tok} {Q:Option (Array UInt8)->Ad->Prop} (h:Q (some b) s):AF (At pw w) A (Dl id (.bytes b t)) Q E s:=by
 unfold Dl
 show[Ac (AV (AR _ _ _) dG ?_),Ac (nT ?_)]
 rw [if_neg (by decide)]
 refine Ac (AV (AR _ _ _) dG ?_)
 dsimp only
 unfold B0
 refine Ac (Ac ?_)
 unfold BN
 refine Ac (AV (AR _ _ _) aak (An (An ?_)))
 rw [if_neg (by decide)]
 exact Ac (Ac (AA (a:=some b) rfl (An (An h))))
theorem alx {b:Array UInt8} {t:Tok} {Q:Option (Array UInt8 × Option Ae)->Ad->Prop} (h:Q (some (b,none)) s):AF (At pw w) A (Ch "bytearray.extend" (.bytes b t) 0) Q E s:=by
 unfold Ch
 refine Ac (HG ?_)
 unfold Fl
 show[Ac (AV (AR _ _ _) dG ?_),Ac (nT ?_)]
 rw [if_neg (by decide)]
 refine Ac (AV (AR _ _ _) dG ?_)
 dsimp only
 exact Ac (b_buffer? (An (An h)))
set_option backward.match.sparseCases true in
theorem vV {a:Addr} {l:List UInt8} {b:List UInt8} {t:Tok} {Q:Ae->Ad->Prop} (hg:s.heap.get? a=some { cls:=.type "bytearray",data:=.bytearray ⟨l⟩ 0 }) (hz:l.length+b.length≤1000000)
 (h:∀ h',h'.get? a=some { cls:=.type "bytearray",data:=.bytearray ⟨l++b⟩ 0 }->BS a s.heap h'->Q .none { s with heap:=h' }):
 av (At pw w) A (CR (.builtin "bytearray.extend") [.ref a,.bytes ⟨b⟩ t]) Q E s:=by
 refine kB (cW (Eu nR.plain _) oX (by decide+kernel) (nR.check _ _ _ _ _ _ _ _ ⟨_,hg,rfl⟩ (yc _ _) ?_))
 unfold BW.«bytearray.extend»
 refine am (.of (AA (a:=(.ref a,.bytes ⟨b⟩ t)) rfl ?_))
 dsimp only
 refine am (.of (AV (AR _ _ _) dG ?_))
 dsimp only [Option.isSome_some]
 rw [if_pos rfl]
 show[xw]
 have pay:∀ {α:Type} {f:Array UInt8->Sem α} {Q:α->Ad->Prop} {E:Ae->Ad->Prop} {A:Around},av (At pw w) A (f ⟨l⟩) Q E s->av (At pw w) A (Builtin.Bytes.payload (.ref a)>>=f) Q E s:=λh=>
  am (.of (Ac (Ac (CF hg (An (An h))))))
 show[pay,am (.of (alx ?_))]
 dsimp only [Option.isNone_none]
 rw [if_pos rfl]
 have fin:av (At pw w) (A.under (.builtin "bytearray.extend" ⟨[.ref a,.bytes ⟨b⟩ t],[]⟩)) (Cs (.ref a) (·++⟨b⟩)>>=λO=>ret .none)
  (Fn (At pw w) A (λr s'=>match r with | .ok (.ret v)=>Q v s' | .ok _=>False | .error e=>E e s')) (λe s'=>E e s') s:=by
  refine am (.of (vU hg (by simp;lia) λh' e hs=>aq (h h' ?_ hs)))
  rw [e,show (⟨l⟩:Array UInt8)++⟨b⟩=⟨l++b⟩ by simp]
 show av _ _ (if (!(⟨b⟩:Array UInt8).isEmpty)=true then (Fm (.ref a)>>=λO=>Cs (.ref a) (·++⟨b⟩)>>=λO=>ret .none) else (Cs (.ref a) (·++⟨b⟩)>>=λO=>ret .none)) _ _ _
 split
 ·unfold Fm
  refine am (am (adi hg ?_))
  rw [if_neg AK]
  exact aq fin
 ·exact fin
theorem adj:B3 (.type "bytearray") "__bytes__"=pure none:=by rw [Bb,AI];kernel_rfl
theorem adk:B3 (.type "bytearray") "__index__"=pure none:=by rw [Bb,AI];kernel_rfl
theorem nU:B3 (.type "bytearray") "__buffer__"=pure (some (.builtin "bytearray.__buffer__")):=by rw [Bb,AI];kernel_rfl
theorem yd {a:Addr} {b:Array UInt8} {k:Nat} {Q:Bool->Ad->Prop} {prog:Program} (hg:s.heap.get? a=some { cls:=.type "bytearray",data:=.bytearray b k }) (h:Q true s):AF (At prog w) A (BN (.ref a) "__buffer__") Q E s:=by
 unfold BN
 refine Ac (AV ⟨_,hg,rfl⟩ nU ?_)
 dsimp only
 rw [if_neg (by decide+kernel),show "bytearray.__buffer__".dropRight ("__buffer__".length+1)="bytearray" from by decide+kernel]
 exact Ac (Db (T:="bytearray") ⟨_,hg,rfl⟩ (AA uw h))
theorem qA {a:Addr} {b:Array UInt8} {k:Nat} {Q:Bool->Ad->Prop} {prog:Program} (hg:s.heap.get? a=some { cls:=.type "bytearray",data:=.bytearray b k }) (h:Q false s):AF (At prog w) A (B0 (.ref a)) Q E s:=by
 unfold B0 BN
 refine Ac (Ac (AV ⟨_,hg,rfl⟩ qz ?_))
 dsimp only
 rw [if_neg (by decide+kernel),show "bytearray.__release_buffer__".dropRight ("__release_buffer__".length+1)="bytearray" from by decide+kernel]
 exact Ac (Db (T:="bytearray") ⟨_,hg,rfl⟩ (AA uw (An h)))
end
theorem qB {a:Addr}:Meets (BW.«bytes.__new__» ⟨[.type "bytes",.ref a],[]⟩) (λO R s=>∃ b:Array UInt8,s.heap.get? a=some { cls:=.type "bytearray",data:=.bytearray b 0 }∧b.size≤1000000∧R (.ok (.ret (.bytes b s.toks))) { s with toks:=s.toks+1 }):=by
 intro prog w A R s h
 refine ec h λb hg hz h=>?_
 unfold BW.«bytes.__new__»
 show[Ac (AA (a:=true) rfl ?_),B7 rfl,Ac (AA F.bm_sub ?_),B7 rfl,Ac (AA (F.bm_bind _) ?_),Ac (AA (a:=()) rfl ?_),Ac (AA (a:=()) rfl ?_),B7 rfl,Ac (AV ⟨_,hg,rfl⟩ adj ?_)]
 dsimp only
 show[Ac (Ac (Ac (CF hg (An (An ?_))))),B7 rfl,Ac (AV ⟨_,hg,rfl⟩ adk ?_),H0 rfl,Ac (m:=Dl "bytes.__new__" (.ref a) true)]
 unfold Dl
 show[Ac (AV ⟨_,hg,rfl⟩ nU ?_),Ac (yd hg ?_)]
 rw [if_neg (by decide)]
 refine Ac (AV ⟨_,hg,rfl⟩ nU ?_)
 dsimp only
 refine Ac (qA hg ?_)
 rw [if_neg (by decide)]
 show(Ac (Ac (Ac (CF hg (An (An (An ?_)))))),Ac (C7 (Ac (HH ?_ (by rw [AQ];lia)))),An h)
section
variable {c:Cx} {n:Nat} {env:Env} {m:Loc} {L:ah} {Q:ad} {X:ac}
theorem adl {a:Addr} {l:List UInt8} (hm:(a,aj.barr l)∈c.R++L) (hz:l.length≤1000000) (h:Q (.bytes l) L):ae c n (.type "bytes") [.obj a] L Q X:=by
 show[.leaf λA s rs hb hf S hv=>?_,an hv.one λr q1' hr=>?_]
 subst q1'
 cases hr
 exact Go IW (by decide) (HI _) (Iv _) (λobj=>Du obj _) F.bm_entry qB ⟨⟨l⟩,S.own _ hm,by simpa using hz,AR _ _ _,ay S h (.bytes _ _)⟩
theorem ahh (h:∀ a,Q (.obj a) ((a,.barr [])::L)):ae c n (.type "bytearray") [] L Q X:=by
 refine ⟨λA s rs hb hf S hv=>?_⟩
 cases hv
 show(aaj λh' e k=>?_,bS (S.new (a:=s.heap.objs.size) (x:=.barr []) (h':=h') (tk:=s.toks) k (λb hb=>by simp [aM] at hb;exact BM hb.symm) (by simp [aM]) e) λS' ev=>?_,⟨_,_,h _,S',.obj _,ev⟩)
theorem sV {a:Addr} {l b:List UInt8} {L₁:ah} (hp:bW L a (.barr l) L₁) (hz:l.length+b.length≤1000000) (h:Q .none ((a,.barr (l++b))::L₁)):ae c n (.builtin "bytearray.extend") [.obj a,.bytes b] L Q X:=by
 show[⟨λA s rs hb hf S hv=>?_⟩,fg hv.two λr q q1' hr hq=>?_]
 subst q1'
 cases hr
 refine aE hq.inv λt q1'=>?_
 subst q1'
 have S1:=S.perm hp.perm
 have hg:s.heap.get? a=some { cls:=.type "bytearray",data:=.bytearray ⟨l⟩ 0 }:=S1.own (a,.barr l) (Aa _ (.head _))
 show(vV hg hz λh' e hs=>?_,bS (S1.turn (x':=.barr (l++b)) (tk:=s.toks) (.head _) hs ⟨_,e⟩ rfl e) λS' ev=>?_,⟨.none,_,h,S',.none,ev.more λb hb=>(aP hp.perm).mem_iff.mpr hb⟩)
theorem aal {a:Addr} {l:List UInt8} {args:List Expr} {pos:Pos} (hm:(a,aj.barr l)∈c.R++L) (h:cI c n env m (AY pos (Ay args env)) L (λvs L1=>ae c n (.builtin "bytearray.extend") (.obj a::vs) L1 Q X) X) (hp:(AY pos (Ay args env)).any (·.1)=false):xh c n env m (Ab "extend") args pos (.obj a) L Q X:=
 ck (λs r S x=>by
  obtain ⟨_,rfl⟩:=x.inv
  have hg:s.heap.get? a=some { cls:=.type "bytearray",data:=.bytearray ⟨l⟩ 0 }:=S.own _ hm
  exact ⟨⟨_,hg,rfl⟩,λb q=>by cases q;exact ⟨_,hg,rfl⟩⟩) sf nR qy h hp
end
end Mine
namespace Mine
set_option maxHeartbeats 0
open PySem PySem.W PyProof.Rows PySem.Calls
theorem mw:Slot "bytes" "join" "bytes.join":=
 .of (owner:="bytes") (n:="join") (by rw [Bb,AI];kernel_rfl) (by decide+kernel) (by decide+kernel) (by decide+kernel)
  (by first | exact .inl (by decide+kernel) | exact .inr (by decide+kernel)) (by rw [C3];kernel_rfl)
theorem adm:E9 table "bytes.join"=some BW.«bytes.join»:=by first | exact Em (by kernel_rfl) | exact En (by kernel_rfl)
theorem ahi (a b:Ae):argsOk "bytes.join" ⟨[a,b],[]⟩:=by unfold argsOk;kernel_rfl
theorem ahj:FJ (.builtin "bytes.join")=pure (.type "method_descriptor"):=by show builtinType _=_;rw [Hw];kernel_rfl
theorem adn:PlainAttrs "bytes":=
 ⟨⟨"bytes.__getattribute__",by rw [Bb,AI];kernel_rfl,by decide+kernel⟩,by rw [Bb,AI];kernel_rfl⟩
section
variable {w:World} {A:Around} {E:Ae->Ad->Prop} {s:Ad}
theorem ahk {id:String} {b:Array UInt8} {t:Tok} {Q:Option (Array UInt8 × Option Ae)->Ad->Prop} (h:Q (some (b,none)) s):AF (At pw w) A (Ch id (.bytes b t) 0) Q E s:=by
 unfold Ch
 refine Ac (HG ?_)
 unfold Fl
 show[Ac (AV (AR _ _ _) dG ?_),Ac (nT ?_)]
 rw [if_neg (by decide)]
 refine Ac (AV (AR _ _ _) dG ?_)
 dsimp only
 exact Ac (b_buffer? (An (An h)))
noncomputable def bvs (l:List (List UInt8 × Tok)):List Ae:=l.map λp=>.bytes ⟨p.1⟩ p.2
theorem ado {keep:List Ae} {Q:Unit->Ad->Prop} (l:List (List UInt8 × Tok)) (h:Q () s):AF (At pw w) A (Builtin.Bytes.joinLetGo ((bvs l).map λv=>(v,none)) keep) Q E s:=by
 induction l with
 | nil=>exact An h
 | cons p l ih=>exact Ac (wpAny_letGo ih)
theorem ye {l:List (List UInt8)}:EE #[] (l.map λb=>(⟨b⟩:Array UInt8))=⟨l.flatten⟩:=by
 have key:∀ (l:List (List UInt8)) (k:Nat) (dT:List UInt8),((l.map λb=>(⟨b⟩:Array UInt8)).zipIdx k).foldl (λout (p:Array UInt8 × Nat)=>(if p.2>0 then out++(#[]:Array UInt8) else out)++p.1) (⟨dT⟩:Array UInt8)=⟨dT++l.flatten⟩:=by
  intro l
  induction l with
  | nil=>intro k dT;simp
  | cons b l ih=>
   intro k dT
   rw [A0,List.zipIdx_cons,I7]
   have:((if k>0 then (⟨dT⟩:Array UInt8)++(#[]:Array UInt8) else ⟨dT⟩)++(⟨b⟩:Array UInt8))=⟨dT++b⟩:=(Gj (k>0)).elim (λq=>by rw [if_pos q,Array.append_empty];exact Hx ..) λq=>by rw [if_neg q];exact Hx ..
   rw [this,ih,Ix,Aq]
 exact key l 0 []
theorem apk {V:Array Ae} (h:V.size≠1) (f:Ae->Sem Eo) (g:Array Ae->Sem Eo):Cv (λO=>Sem Eo) V f g=g V:=by
 delta Cv
 simp only [h,dite_false]
theorem apl {x:Ae} (f:Ae->Sem Eo) (g:Array Ae->Sem Eo):Cv (λO=>Sem Eo) #[x] f g=f x:=rfl
theorem ahl {β:Type} {M:Model} {N:Nat} (n:Nat) (hn:N=n) (f:Nat->β->Sem (ForInStep β)) (I:Nat->β->Ad->Prop) {Q:β->Ad->Prop} (turn:∀ i b s,i <n->I i b s->AF M A (f i b) (λr s'=>∃ b',r=.yield b'∧I (i+1) b' s') E s)
 (fin:∀ b s,I n b s->Q b s) {b:β} (h:I 0 b s):AF M A (forIn [:N] b f) Q E s:=by
 subst hn
 have key:∀ (k i:Nat) (b:β) (s:Ad),i+k=N->I i b s->AF M A (forIn (List.range' i k) b f) Q E s:=by
  intro k
  induction k with
  | zero=>intro i b s e h;exact An (fin _ _ (e▸h))
  | succ k ih=>
   intro i b s e h
   rw [List.range'_succ,GD]
   refine Ac (BC (turn i b s (e▸Nat.lt_add_of_pos_right (Nat.succ_pos k)) h) (λr s' hr=>an hr λb' e1 h1=>?_) λO O h'=>h')
   subst e1
   exact ih (i+1) b' s' ((Nat.succ_add i k).trans e) h1
 rw [G7]
 show AF M A (forIn (List.range' 0 ((N - 0+1 - 1) / 1) 1) b f) Q E s
 rw [show (N - 0+1 - 1) / 1=N from Nat.div_one N]
 exact key N 0 b s (C9 N) h
theorem aly {a:Addr} {t:Tok} {l:List (List UInt8 × Tok)} {k:Nat} {Q:Ae->Ad->Prop} (hg:s.heap.get? a=some ⟨.type "list",.none,.seq ⟨bvs l⟩ k,#[]⟩) (hz:((l.map Ar).flatten).length≤1000000)
 (h:∀ t' k',Q (.bytes ⟨(l.map Ar).flatten⟩ t') { s with toks:=k' }):AF (At pw w) A (CR (.builtin "bytes.join") [.bytes #[] t,.ref a]) Q E s:=by
 refine El mw (AR _ _ _) adm ?_ (ahi _ _)
 delta BW.«bytes.join» Builtin.Bytes.joinM
 show[Ac (AA (a:=(.bytes #[] t,.ref a)) rfl ?_),Ac (m:=F7 (.ref a))]
 unfold F7
 refine Ac (Db (T:="list") ⟨_,hg,rfl⟩ ?_)
 rw [if_pos (by decide)]
 show[An,Ac (Ac (CF hg (An ?_)))]
 show AF _ _ (Cv (λO=>Sem Eo) (⟨bvs l⟩:Array Ae) _ _) _ _ _
 by_cases hV:(⟨bvs l⟩:Array Ae).size=1
 ·have hV:l.length=1:=(Af _).symm.trans hV
  refine aE (List.length_eq_one_iff.mp hV) λp q=>?_
  subst q
  rw [show (⟨bvs [p]⟩:Array Ae)=#[.bytes ⟨p.1⟩ p.2] from rfl,apl]
  refine Ac (AA (a:=.type "bytes") rfl ?_)
  rw [if_pos (by decide)]
  refine Ac (C7 (An ⟨_,rfl,?_⟩))
  have:=h p.2 s.toks
  rw [show (([p]:List (List UInt8 × Tok)).map Ar).flatten=p.1 from A6 p.1] at this
  exact this
 ·rw [apk hV]
  refine Ac (ahl l.length (Af _) _ (λi (b:Array (Array UInt8) × List (Ae × Option Ae)) s'=>s'=s∧b=(⟨((l.take i).map λp=>(⟨p.1⟩:Array UInt8))⟩,(bvs (l.take i)).map λv=>(v,none))) (λj b s' hlt hI=>bS hI λes eb=>?_) (λb s' hI=>bS hI λes eb=>?_) (b:=(#[],[])) ⟨rfl,rfl⟩)
  ·subst es
   subst eb
   refine Ac (Ac (CF hg (An ?_)))
   have e1:(Builtin.Bytes.Kind.bytes==I8||((bvs (l.take j)).map λv=>(v,(none:Option Ae))).any λx=>x.1.onHeap)=false:=by
    have:((bvs (l.take j)).map λv=>(v,(none:Option Ae))).any (λx=>x.1.onHeap)=false:=by
     unfold bvs
     rw [EY,EY]
     exact List.any_eq_false.mpr λx O=>AK
    rw [this];rfl
   have e2:(⟨bvs l⟩:Array Ae).getD j B4=.bytes ⟨l[j].1⟩ l[j].2:=by
    simp [Array.getD,bvs,hlt]
   show AF _ _ (if _ then _ else _) _ _ _
   rw [e1,if_neg AK,e2]
   show[Ac (BF (ahk ?_)),Ac (Ac (CF hg (An ?_)))]
   show AF _ _ (if _ then _ else _) _ _ _
   rw [if_neg (by simp)]
   refine An ⟨_,rfl,rfl,?_⟩
   rw [show l.take (j+1)=l.take j++[l[j]] by rw [BE,AB hlt];rfl]
   simp only [bvs,AT,A0,Iy]
   rw [Array.push,List.concat_eq_append]
  ·subst es
   subst eb
   rw [BU]
   refine Ac (AA (a:=#[]) rfl ?_)
   have fl:∀ (l:List (List UInt8 × Tok)) (n:Nat),(l.map λp=>(⟨p.1⟩:Array UInt8)).foldl (λx1 x2=>x1+x2.size) n=n+((l.map Ar).flatten).length:=by
    intro l
    induction l with
    | nil=>intro n;rfl
    | cons p l ih=>intro n;rw [A0,I7,ih];simp [Nat.add_assoc]
   have e3:Eh (Array.foldl (λ(x1:Nat) (x2:Array UInt8)=>x1+x2.size) ((#[]:Array UInt8).size * ((⟨l.map λp=>(⟨p.1⟩:Array UInt8)⟩:Array (Array UInt8)).size - 1)) ⟨l.map λp=>(⟨p.1⟩:Array UInt8)⟩)=false:=by
    unfold Eh
    rw [← Array.foldl_toList,fl,AQ]
    exact decide_eq_false (by rw [show (#[]:Array UInt8).size=0 from rfl,Nat.zero_mul];lia)
   have e4:EE #[] (l.map λp=>(⟨p.1⟩:Array UInt8))=⟨(l.map Ar).flatten⟩:=by
    rw [← ye,Aw];rfl
   show AF _ _ (if _ then _ else _) _ _ _
   rw [e3,if_neg AK]
   show[Ac (m:=Builtin.Bytes.Kind.bytes.new (EE #[] (l.map λp=>(⟨p.1⟩:Array UInt8))))]
   rw [e4]
   show(HH ?_ (by rw [AQ];exact Ai hz (by decide)),Ac (BF (IU (Ac (ado l (An ⟨_,rfl,h _ _⟩))))))
end
section
variable {c:Cx} {n:Nat} {env:Env} {m:Loc} {L:ah} {Q:ad} {X:ac}
theorem adp {h:Heap} {F:List Addr} {bs:List (List UInt8)}:∀ {us:List Ae},bT h F (bs.map V.bytes) us->∃ l:List (List UInt8 × Tok),us=bvs l∧l.map Ar=bs:=by
 induction bs with
 | nil=>intro us x;exact ⟨[],x.un0,rfl⟩
 | cons b bs ih=>
  intro us x
  show(fg x.unc λu us' e p q=>?_,aE p.inv λt e1=>an (ih q) λl e2 e3=>?_,⟨(b,t)::l,by rw [e,e1,e2];rfl,congrArg (b::·) e3⟩)
theorem alz {bs:List (List UInt8)} {l:List V} (e:l=bs.map .bytes) (hz:bs.flatten.length≤1000000) (h:Q (.bytes bs.flatten) L):ae c n (.builtin "bytes.join") [.bytes [],.list l] L Q X:=by
 subst e
 show[.leaf λA s rs hb hf S hv=>?_,fg hv.two λr q q1' hr hq=>?_]
 subst q1'
 refine aE hr.inv λt q1'=>?_
 subst q1'
 refine jC hq.inv λvs a k q1' hF hg hs=>?_
 subst q1'
 refine an (adp hs) λl q1' e=>?_
 subst q1'
 refine aly hg (by rw [e];exact hz) λt' k'=>?_
 rw [e]
 exact ay S h (.bytes _ _)
theorem al0 {b:List UInt8} {args:List Expr} {pos:Pos} (h:cI c n env m (AY pos (Ay args env)) L (λvs L1=>ae c n (.builtin "bytes.join") (.bytes b::vs) L1 Q X) X) (hp:(AY pos (Ay args env)).any (·.1)=false):xh c n env m (Ab "join") args pos (.bytes b) L Q X:=
 ck (λs r S x=>by cases x with | bytes _ t=>exact ⟨AR _ _ _,λb q=>by cases q⟩) adn ⟨mw.lookup,mw.bind,mw.check,mw.plain⟩ ahj h hp
end
end Mine
namespace Mine
open PySem PySem.W PyProof.Rows PySem.Calls PySem.Builtin.Str
section
variable {c:Cx} {n:Nat} {env:Env} {m:Loc} {L:ah} {Q:ad} {X:ac}
theorem jF.room {A:Around} (b:jF n A):A.units <cLine:=by have:=b.units;lia
theorem pd {l:List V} (h:Q (.bool (!l.isEmpty)) L):bj c n (AU .NotEq) (.list l) (.list []) L Q X:=
 ⟨λA s r1 r2 hb O S x1 x2=>by
  refine jC x1.inv λvs a k q1' hF ho hs=>?_
  subst q1'
  refine jC x2.inv λws a2 k2 q1' hF2 ho2 hs2=>?_
  subst q1'
  cases hs2
  cases hs with
  | nil=>exact SeqAt.RcNeAt.lists (items:=#[]) (items2:=#[]) (e:=λO=>true) ⟨_,ho,rfl,_,rfl⟩ ⟨_,ho2,rfl,_,rfl⟩ rfl hb.room (λj h1=>absurd h1 (I9 _)) _ _ _ _ (aN S h (.bool _))
  | cons hv hr=>exact SeqAt.RcNeAt.lists_lengths (items2:=#[]) ⟨_,ho,rfl,_,rfl⟩ ⟨_,ho2,rfl,_,rfl⟩ rfl hb.room _ _ _ _ (aN S h (.bool _))⟩
theorem y8 {l:List V} (h:Q (.bool l.isEmpty) L):bj c n (AU .Eq) (.list l) (.list []) L Q X:=
 ⟨λA s r1 r2 hb O S x1 x2=>by
  refine jC x1.inv λvs a k q1' hF ho hs=>?_
  subst q1'
  refine jC x2.inv λws a2 k2 q1' hF2 ho2 hs2=>?_
  subst q1'
  cases hs2
  cases hs with
  | nil=>exact SeqAt.eq_listAt (items:=#[]) (items2:=#[]) (e:=λO=>true) ⟨_,ho,rfl,_,rfl⟩ ⟨_,ho2,rfl,_,rfl⟩ rfl hb.room (λj h1=>absurd h1 (I9 _)) (aN S h (.bool _))
  | cons hv hr=>exact SeqAt.eq_list_lengthsAt (items2:=#[]) ⟨_,ho,rfl,_,rfl⟩ ⟨_,ho2,rfl,_,rfl⟩ rfl hb.room (aN S h (.bool _))⟩
theorem sW {a b:Bool} (h:Q (.bool (a != b)) L):bj c n (AU .NotEq) (.bool a) (.bool b) L Q X:=
 ⟨λA s r1 r2 hb O S x1 x2=>by obtain ⟨_,rfl⟩:=x1.inv;obtain ⟨_,rfl⟩:=x2.inv;exact ne_bool (aN S h (.bool _))⟩
theorem adq {b:Bool} (h:Q (.int (if b then 1 else 0)) L):ae c n (.type "int") [.bool b] L Q X:=by
 show[.leaf λA s rs hb hf S hv=>?_,an hv.one λr q1' hr=>?_]
 subst q1'
 cases hr
 exact call_int_bool (ay S h (.int _ _))
noncomputable def nV (x:Str) (lo hi:Option Int):Str:=
 if (strSliceIndices lo hi 1 x.length).length==x.length then x else ⟨((strSliceIndices lo hi 1 x.length).filterMap (x.cps[·]?)).toArray⟩
theorem sX {v:Ae} {i:Option Int} (p:IsPart v i):∃ q:Option (Int × Tok),v=partValue q∧q.map (·.1)=i:=by
 cases p with
 | none=>exact ⟨none,rfl,rfl⟩
 | int i t=>exact ⟨some (i,t),rfl,rfl⟩
theorem ajn {x:Str} {lo hi:Option Int} (hz:(nV x lo hi).length≤1000000) (h:Q (.str (nV x lo hi)) L):xT c n (.str x) lo hi L Q X:=
 ⟨λA s r vl vu a O O S xr sl pl pu=>by
  refine aE xr.inv λt q1'=>?_
  subst q1'
  refine an (sX pl) λl q1' hl=>?_
  subst q1'
  refine an (sX pu) λu q1' hu=>?_
  subst q1'
  refine ⟨"str",_,Ff _ _ _,PySem.F.slot_str_getitem.lookup,wpAny_getItem_str_slice (l:=l) (u:=u) (st:=none) sl rfl ?_⟩
  unfold sliceMade slicePicked
  rw [hl,hu]
  unfold nV at h hz
  by_cases e:((strSliceIndices lo hi 1 x.length).length==x.length)=true
  ·rw [if_pos e] at h
   rw [if_pos (by simpa using e)]
   exact aN S h (.str _ _)
  ·rw [if_neg e] at h hz
   rw [if_neg (by simpa using e)]
   exact ⟨Ai hz (by rw [AQ];decide),ay S h (.str _ _)⟩⟩
theorem vW {h:Heap} {F:List Addr}:∀ (l:List (Str × Tok)),bT h F ((l.map (·.1)).map V.str) (strValues l)
 | []=>.nil
 | p::r=>.cons (.str _ _) (vW r)
theorem qC {s:Ad} {l:List (Str × Tok)} {tk:Nat} {xs:List Str} (S:St c L s) (hx:l.map (·.1)=xs) (h:Q (.list (xs.map .str)) L):cD c L s Q (.ref s.heap.objs.size) { s with heap:=s.heap.push { cls:=.type "list",data:=.seq (strValues l).toArray },toks:=tk }:=by
 subst hx
 exact dC S h (λO O e=>Aj _ e) (.list S.size_out (Ax _ rfl) (vW l))
theorem al1 {x y:Str} (hy:(y.length==0)=false) (hx:x.length≤1000000) (hp:(partsBetween x (occurrences x y 0 x.length (x.length+1)) y.length).length≤1000000) (h:Q (.list ((IN x y).map .str)) L):ae c n (.builtin "str.split") [.str x,.str y] L Q X:=by
 show[.leaf λA s rs hb hf S hv=>?_,fg hv.two λr q q1' hr hq=>?_]
 subst q1'
 refine aE hr.inv λt q1'=>?_
 subst q1'
 refine aE hq.inv λu q1'=>?_
 subst q1'
 have big:(1000000:Nat)≤Dn:=by rw [AQ];decide
 cases h1:(decide (x.length <y.length)||decide (strKind x <strKind y)) with
 | false=>
  cases hf:(occurrences x y 0 x.length (x.length+1)).isEmpty with
  | false=>
   show[Gq Da (Ff _ _ _) D1 (DQ _ _) (meets_str_split_sep x y t u h1 hy hf (Ai hx big) (Ai hp big))]
   show wants (cD c L s Q) _ _ { s with toks:=_,heap:=s.heap.push { cls:=.type "list",data:=.seq (strsFrom s.toks (partsBetween x (occurrences x y 0 x.length (x.length+1)) y.length)).toArray } }
   rw [strsFrom_eq]
   exact qC S ((numbered_texts _ _).trans ((if_neg (ne_true_of_eq_false h1)).trans (if_neg (ne_true_of_eq_false hf))).symm) h
  | true=>exact Gq Da (Ff _ _ _) D1 (DQ _ _) (meets_str_split_not_found x y t u h1 hy hf) (qC (l:=[(x,t)]) S ((if_neg (ne_true_of_eq_false h1)).trans (if_pos hf)).symm h)
 | true=>exact Gq Da (Ff _ _ _) D1 (DQ _ _) (meets_str_split_cannot_occur x y t u h1) (qC (l:=[(x,t)]) S (if_pos h1).symm h)
theorem adr (f:Array Ae->Array Ae) (cl:Ae) (d:Option Addr) (xs:Array Ae) (k:Nat) (sl:Array (Option Ae)):∃ k',Ci f ⟨cl,d,.seq xs k,sl⟩=⟨cl,d,.seq (f xs) k',sl⟩:=⟨_,rfl⟩
theorem ads {a:Addr} {l l2:List V} {L₁:ah} (hp:bW L a (.lst l) L₁) (hz:l.length+l2.length≤1000000) (h:Q .none ((a,.lst (l++l2))::L₁)):ae c n (.builtin "list.extend") [.obj a,.list l2] L Q X:=by
 show[.leaf λA s rs hb hf S hv=>?_,fg hv.two λr q q1' hr hq=>?_]
 subst q1'
 cases hr
 refine jC hq.inv λws b k2 q1' hF2 ho2 hs2=>?_
 subst q1'
 have S1:=S.perm hp.perm
 refine oq (S1.own (a,.lst l) (Aa _ (.head _))) λvs k hg hs=>?_
 have l1:=hs.len
 have l2':=hs2.len
 have hz2:(⟨vs⟩:Array Ae).size+(⟨ws⟩:Array Ae).size≤Dn:=by rw [Bl,Bl,AQ];lia
 refine Gq FM ⟨_,hg,rfl⟩ PySem.F.entry_list_extend (PySem.F.args_list_extend_2 _ _) (AutoSeq1.list_extend_list_list_0 a ⟨vs⟩ k b ⟨ws⟩ k2 (by unfold Builtin.List.listTooLong;simp only [Al,decide_eq_true_eq,not_and];exact λO=>Nat.not_lt.mpr hz2) (by lia) (by lia)) ⟨hg,ho2,?_⟩
 have hg':(s.heap.update a (Ci λx=>x++⟨ws⟩)).get? a=some (Ci (λx=>x++⟨ws⟩) ⟨.type "list",.none,.seq ⟨vs⟩ k,#[]⟩):=BX _ hg rfl
 have hs':BS a s.heap (s.heap.update a (Ci λx=>x++⟨ws⟩)):=Cr ..
 have ex:bx (foot (c.R++((a,.lst l)::L₁))) (foot (c.R++((a,.lst l)::L₁))) s.heap (s.heap.update a (Ci λx=>x++⟨ws⟩)):=⟨λb o e O hb=>(hs'.2 b λq=>hb (by rw [q,ar];exact Aa _ (.head _))).trans e,λO hb=>.inl hb⟩
 have fp:∀ b,b∈foot (c.R++L)↔b∈foot (c.R++((a,.lst l)::L₁)):=λb=>by
  rw [ar,ar,DT,DT,(aP hp.perm).mem_iff]
 have hq':bT s.heap (foot (c.R++((a,.lst l)::L₁))) l2 ws:=hs2.mono ⟨λO O e O O=>e,λb hb=>.inl ((fp b).mpr hb)⟩
 refine aE (adr (λx=>x++(⟨ws⟩:Array Ae)) (.type "list") .none ⟨vs⟩ k #[]) λk' hk=>?_
 have hg'':(s.heap.update a (Ci λx=>x++⟨ws⟩)).get? a=some ⟨.type "list",.none,.seq ⟨vs++ws⟩ k',#[]⟩:=by rw [hg',hk];simp
 show(bS (S1.turn (x':=.lst (l++l2)) (tk:=s.toks) (.head _) hs' ⟨_,hg'⟩ rfl ⟨vs++ws,k',hg'',(hs.mono ex).app (hq'.mono ex)⟩) λS' ev=>?_,⟨.none,_,h,S',.none,ev.more λb hb=>(aP hp.perm).mem_iff.mpr hb⟩)
theorem adt {a:Addr} {l:List V} {args:List Expr} {pos:Pos} (hm:(a,aj.lst l)∈c.R++L) (h:cI c n env m (AY pos (Ay args env)) L (λvs L1=>ae c n (.builtin "list.extend") (.obj a::vs) L1 Q X) X) (hp:(AY pos (Ay args env)).any (·.1)=false):xh c n env m (Ab "extend") args pos (.obj a) L Q X:=
 ck (ajm hm) F6 FM PySem.F.type_list_extend h hp
theorem ahm {a:Addr} {fs:List (Str × V)} {args:List Expr} {pos:Pos} (hm:(a,aj.dS fs)∈c.R++L) (h:cI c n env m (AY pos (Ay args env)) L (λvs L1=>ae c n (.builtin "dict.items") (.obj a::vs) L1 Q X) X) (hp:(AY pos (Ay args env)).any (·.1)=false):xh c n env m (Ab "items") args pos (.obj a) L Q X:=
 ck (qw (.inl ⟨_,hm⟩)) B6 C5 D5 h hp
theorem ahn {a:Addr} {fs:List (Int × V)} {args:List Expr} {pos:Pos} (hm:(a,aj.dI fs)∈c.R++L) (h:cI c n env m (AY pos (Ay args env)) L (λvs L1=>ae c n (.builtin "dict.items") (.obj a::vs) L1 Q X) X) (hp:(AY pos (Ay args env)).any (·.1)=false):xh c n env m (Ab "items") args pos (.obj a) L Q X:=
 ck (qw (.inr ⟨_,hm⟩)) B6 C5 D5 h hp
end
end Mine
namespace Mine
open PySem PySem.W PyProof.Rows PySem.Calls
section
variable {c:Cx} {n:Nat} {env:Env} {m:Loc} {L:ah} {Q:ad} {X:ac}
noncomputable def Sub (L1 L':ah):Prop:=∃ g,L'.Perm (g++L1)
theorem Sub.rfl {L:ah}:Sub L L:=⟨[],.refl _⟩
theorem Sub.of {L L':ah} (h:L'.Perm L):Sub L L':=⟨[],h⟩
theorem Sub.tail {L:ah} {p:Addr × aj}:Sub L (p::L):=⟨[p],.refl _⟩
theorem Sub.trans {L1 L2 L3:ah} (a:Sub L1 L2) (b:Sub L2 L3):Sub L1 L3:=let ⟨g,x⟩:=a;let ⟨k,y⟩:=b;⟨k++g,y.trans ((x.append_left k).trans (by rw [Aq]))⟩
theorem Sub.mem {L1 L2:ah} (a:Sub L1 L2) {b:Addr} (h:b∈foot L1):b∈foot L2:=let ⟨g,x⟩:=a;(aP x).mem_iff.mpr (by rw [ar];exact Aa _ h)
theorem Sub.memR {L1 L2:ah} (a:Sub L1 L2) (b:Addr) (h:b∈foot (c.R++L1)):b∈foot (c.R++L2):=by
 rw [ar] at h ⊢
 exact (List.mem_append.mp h).elim (Ag _) λq=>Aa _ (a.mem q)
theorem St.part {L1 L':ah} {s:Ad} (a:Sub L1 L') (S:St c L' s):St c L1 s:=let ⟨_,x⟩:=a;(S.perm x).suffix
theorem VR.less {h:Heap} {F F':List Addr} {v:V} {rv:Ae} (x:VR h F v rv) (m:∀ b,b∈F'->b∈F):VR h F' v rv:=x.mono ⟨λO O e O O=>e,λb hb=>.inl (m b hb)⟩
theorem cD.norm {s s':Ad} {rv:Ae} (x:cD c L s (λv L'=>∃ L1,Sub L1 L'∧Q v L1) rv s'):cD c L s Q rv s':=by
 obtain ⟨v,L',⟨L1,a,q⟩,S,hv,e⟩:=x
 exact ⟨v,L1,q,S.part a,hv.less a.memR,e.less λb=>a.mem⟩
theorem kE.less {Fr G G' G'':List Addr} {s s':Ad} (a:kE Fr G G' s s') (h:∀ b∈G'',b∈G'):kE Fr G G'' s s':=⟨a.keep,a.live,λb hb=>a.grow b (h b hb),a.os⟩
theorem bG.norm {s s':Ad} {rv:Ae} (x:bG c L s (λC L'=>∃ L1,Sub L1 L'∧X C L1) rv s'):bG c L s X rv s':=by
 obtain ⟨C,L',⟨L1,a,q⟩,S,hv,e⟩:=x
 exact ⟨C,L1,q,S.part a,hv,e.less λb=>a.mem⟩
theorem ae.norm {f:Ae} {vs:List V} (h:ae c n f vs L (λv L'=>∃ L1,Sub L1 L'∧Q v L1) (λC L'=>∃ L1,Sub L1 L'∧X C L1)):ae c n f vs L Q X:=
 ⟨λA s r a b d e=>ai (h.go A s r a b d e) (λO O g=>g.norm) λO O g=>g.norm⟩
theorem ae.pre {f:Ae} {vs:List V} {L':ah} (p:L'.Perm L) (h:ae c n f vs L Q X):ae c n f vs L' Q X:=by
 refine ⟨λA s r a b S e=>?_⟩
 have i:∀ x,x∈foot L'↔x∈foot L:=λx=>(aP p).mem_iff
 have iR:∀ x,x∈foot (c.R++L')↔x∈foot (c.R++L):=λx=>(aP (p.append_left c.R)).mem_iff
 refine ai (h.go A s r a b (S.perm p) (e.mono ⟨λO O e O O=>e,λb hb=>.inl ((iR b).mpr hb)⟩)) (λO O g=>?_) λO O g=>?_
 ·obtain ⟨v,L1,q,S1,hv,ev⟩:=g
  exact ⟨v,L1,q,S1,hv,ev.more λx hx=>(i x).mpr hx⟩
 ·obtain ⟨C,L1,q,S1,hv,ev⟩:=g
  exact ⟨C,L1,q,S1,hv,ev.more λx hx=>(i x).mpr hx⟩
inductive apm (c:Cx) (L:ah) (s:Ad) (Q:List (Str × V)->ah->Prop) (vs:List (Ae × Ae)) (s':Ad):Prop
 | mk (kvs:List (Str × V)) (L':ah) (q:Q kvs L') (l:vs.length=kvs.length) (S:St c L' s') (x:∃ rvs,Carries (strKind pw c.w) vs rvs∧bV s'.heap (foot (c.R++L')) kvs rvs) (e:bD (foot L) (foot L') s s')
noncomputable def vX (c:Cx) (n:Nat) (env:Env) (m:Loc) (ps:List (Sem Ae × Sem Ae)) (L:ah) (Q:List (Str × V)->ah->Prop) (X:ac):Prop:=
 ∀ (A:Around) (s:Ad),jF n A->bF c A s.heap->St c L s->aA c s.heap (foot (c.R++L)) env m->
  av (At pw c.w) A (evalPairs ps) (apm c L s Q) (bG c L s X) s
theorem adu {Q:List (Str × V)->ah->Prop} (h:Q [] L):vX c n env m [] L Q X:=λA s O O S O=>.of (evalPairs_nil ⟨[],L,h,rfl,S,⟨[],trivial,.nil⟩,.refl _ _⟩)
theorem aan {x:Str} {k:Nat} {kp pos:Pos} {e:Expr} {ks:List (Option Expr)} {es:List Expr} {Q:List (Str × V)->ah->Prop} (h:bv c n env m (eval e env) L (λv L1=>vX c n env m (Hm ks es env pos) L1 (λkvs L2=>Q ((x,v)::kvs) L2) X) X):
 vX c n env m (Hm (some (.Constant (.str x) k kp)::ks) (e::es) env pos) L Q X:=by
 intro A s hb hf S V
 show av _ A (evalPairs ((_,_)::_)) _ _ _
 rw [evalPairs]
 show[aw (.of (HQ (Q:=λv s'=>∃ t,v=.str x t∧s'={ s with toks:=s.toks+1 }) ⟨_,rfl,rfl⟩)) λkv s1 g=>?_,an g]
 clear g
 intro t q1' q2'
 subst q1'
 subst q2'
 refine aw (aH (aw (ai (h A { s with toks:=s.toks+1 } hb hf (S.toks _) V) (λO O z=>z) λO O z=>bG.after (bD.toks _ s _) z) λr1 s1 g1=>bM (aq g1))) λvv s2 g2=>?_
 obtain ⟨v1,L1,k1,S1,x1,e1⟩:=g2
 have e0:bD (foot L) (foot L1) s s2:=bD.trans (bD.toks _ s _) e1
 refine aw (aH (ai (k1 A s2 hb (hf.evo S e0) S1 (V.evo S e0)) (λr s3 g3=>g3) λO O z=>bG.after e0 z)) λvs s3 g3=>aq ?_
 obtain ⟨kvs,L2,q,hl,S3,⟨rvs,hc,hE⟩,e2⟩:=g3
 exact ⟨_,L2,q,by rw [AJ,AJ,hl],S3,⟨(x,vv)::rvs,⟨by simp [Cy,CT],rfl,hc⟩,.cons (x1.mono e2.ext) hE⟩,e0.trans e2⟩
theorem bV.memF {K:Type} {h:Heap} {F F':List Addr} {fs:List (K × V)} {es:List (K × Ae)} (x:bV h F fs es) (m:∀ b,b∈F'->b∈F):bV h F' fs es:=x.mono ⟨λO O e O O=>e,λb hb=>.inl (m b hb)⟩
theorem yf {K:Type} [DecidableEq K] (more:List (K × Ae)) (hn:(more.map (·.1)).Nodup):merged [] more=more:=Hy more hn
theorem aho {ks:List (Option Expr)} {es:List Expr} {pos:Pos} (hall:ks.all (·.isSome)=true) (hl:ks.length=es.length) (h0:ks≠[]) (hlen:ks.length≤15)
 (h:∀ a,vX c n env m (Hm ks es env pos) ((a,.dS [])::L) (λkvs L2=>∃ L3,bW L2 a (.dS []) L3∧(kvs.map (·.1)).Nodup∧kvs.length≤100000∧Q (.obj a) ((a,.dS kvs)::L3)) X):
 bv c n env m (eval (.Dict ks es pos) env) L Q X:=by
 intro A s hb hf S V
 have hn:=pairTrees_length ks es env pos hall hl
 have hne:Hm ks es env pos≠[]:=λhe=>by rw [he] at hn;exact h0 (List.length_eq_zero_iff.mp hn.symm)
 rw [arm_eval_Dict,zip_pairTrees ks es env pos hall hl,dictDisplay_pairs _ hne (by lia)]
 refine bM (am ?_)
 unfold subDict
 show[am (.of (IX ?_)),am (aH ?_)]
 rw [if_pos (by lia)]
 show[bS (S.new (a:=s.heap.objs.size) (x:=.dS []) (h':=s.heap.push { cls:=.type "dict",data:=.dict #[] }) (tk:=s.toks) (λO O e=>Aj _ e) (λb hb=>by simp [aM] at hb;exact BM hb.symm) (by simp [aM]) ⟨[],EK _,.nil⟩) λS' ev=>?_,aw (ai (h _ A _ hb (hf.evo S ev) S' (V.evo S ev)) (λO O z=>z) λO O z=>bG.after ev z) λvs s1 g=>?_]
 obtain ⟨kvs,L2,⟨L3,hp,hnd,hz,q⟩,hl2,S1,⟨rvs,hc,hE⟩,e1⟩:=g
 have pm:=hp.perm
 have S2:=S1.perm pm
 refine an (S2.own (_,.dS []) (Aa _ (.head _))) λkv0 hD hE0=>?_
 cases hE0
 have hlr:rvs.length=vs.length:=hc.length
 refine .of (BF (Ac (wpAny_storeAll (knd:=strKind pw c.w) vs rvs [] s1 _ hc hD (by rw [AQ,List.length_nil];lia) λh' hD' hs=>An (aq (aq ?_)))))
 have mF:∀ b,b∈foot (c.R++((s.heap.objs.size,aj.dS [])::L3))->b∈foot (c.R++L2):=λb=>(aP (pm.append_left c.R)).mem_iff.mpr
 have ext:bx (foot (c.R++((s.heap.objs.size,aj.dS [])::L3))) (foot (c.R++((s.heap.objs.size,aj.dS [])::L3))) s1.heap h':=⟨λb o e O hb=>(hs.2 b λq=>hb (q▸b7 (Aa _ (.head _)))).trans e,λO hb=>.inl hb⟩
 have hk:rvs.map (·.1)=kvs.map (·.1):=hE.keys
 rw [yf rvs (by rw [hk];exact hnd)] at hD'
 show(bS (S2.turn (x':=.dS kvs) (tk:=s1.toks+vs.length) (d:=s.heap.objs.size) (by simp [aM]) hs (fU hD') rfl ⟨_,hD',((hE.memF mF).mono ext)⟩) λT ev2=>?_,⟨_,_,q,T,.obj _,ev.trans (e1.trans (ev2.more λb=>(aP pm).mem_iff.mpr))⟩)
end
section
variable {prog:Program} {w:World} {A:Around} {E:Ae->Ad->Prop}
theorem sY {it t:Addr} {items:Array Ae} (hne:t≠it):∀ (n i:Nat) (s:Ad) (Q:List Ae->Ad->Prop),s.heap.IsListIter it t i->s.heap.IsList t items->i+n≤items.size->
 (∀ h',h'.IsListIter it t (i+n)->BS it s.heap h'->Q ((items.toList.drop i).take n) { s with heap:=h' })->AF (At prog w) A (draw (.ref it) n) Q E s
 | 0,i,s,Q,hit,_,_,hQ=>by
  show AF _ _ (pure []) Q E s
  exact An (by simpa using hQ s.heap hit (Heap.SameBut.refl ..))
 | n+1,i,s,Q,hit,ht,hle,hQ=>by
  have hlt:i <items.size:=by lia
  show AF _ _ (pyNext (.ref it)>>=_) Q E s
  show[Ac (Gr hit ht (x:=items[i]) (by simp [hlt]) λh₁ hit₁ hs₁=>?_),Ac (BF (sY hne n (i+1) _ _ hit₁ (ht.extBut hs₁.extBut hne) (by lia) λh₂ hit₂ hs₂=>An ?_))]
  have hd:items.toList.drop i=items[i]::items.toList.drop (i+1):=by simp [DF,hlt]
  have:=hQ h₂ (by rw [show i+(n+1)=i+1+n by lia];exact hit₂) (hs₁.trans hs₂)
  rw [hd,List.take_succ_cons] at this
  exact this
theorem vY {s:Ad} {t:Addr} {items:Array Ae} {Q:List Ae->Ad->Prop} (hh:A.handled=none) (ht:s.heap.IsList t items)
 (hQ:∀ h',GW s.heap.objs.size s.heap h'->Q items.toList { s with heap:=h' }):AF (At prog w) A (IV (.ref t) items.size none) Q E s:=by
 have hlt:t≠s.heap.objs.size:=by refine an ht λo ho O=>?_;exact Cb (AZ ho)
 unfold IV
 show[Ac]
 unfold notIterableAtAll
 show[Ac (AV ht.typeIs slot_list_iter.lookup ?_),An]
 simp only [C8,if_false]
 show[Ac (BF (D9 ht ?_)),Ac (BF (sY hlt items.size 0 _ _ ⟨_,Ax _ rfl,rfl,rfl⟩ (ht.push _) (by lia) λh₁ hit₁ hs₁=>?_))]
 have hall:List.take items.size (List.drop 0 items.toList)=items.toList:=by
  rw [Ea];exact Cc (by simp)
 rw [hall]
 rw [if_neg (by simp)]
 have ht₁:h₁.IsList t items:=(ht.push _).extBut hs₁.extBut hlt
 refine Ac (BF (GQ hh hit₁ ht₁ (by simp) λh₂ he₂=>?_))
 simp only [Option.isSome_none,C8,if_false]
 exact An (hQ h₂ λb o hb e=>he₂ b o hb (hs₁.extBut b o hb (Aj _ e)))
end
section
variable {c:Cx} {n:Nat} {env:Env} {m:Loc} {L:ah} {N:a8} {X:ac}
theorem ahp {elts:List Expr} {k:Nat} {pos:Pos} {vs:List V} (h:tO c env n m ((Bo elts env).map (·.2)) vs L N X) (hn:elts.length=vs.length) (hl:(Bo elts env).length=elts.length)
 (hst:(Bo elts env).findIdx? (·.1)=none):zW c env n m (assign (.Tuple elts k pos) env) (.list vs) L N X:=by
 intro A s r hb hf S V hv
 refine jC hv.inv λrs a kk q1' hF hg hs=>?_
 subst q1'
 rw [arm_assign_Tuple]
 show[bM]
 unfold unpack
 rw [hst,show (Bo elts env).length=(⟨rs⟩:Array Ae).size from by rw [hl,hn,← hs.len];rfl]
 refine am (aH (.of (vY hb.handled ⟨_,hg,rfl,_,rfl⟩ λh' e=>?_)))
 have k:=S.ext e
 have ev:bD (foot L) (foot L) s { s with heap:=h' }:=bD.all (t:=s.toks) k
 have S':St c L { s with heap:=h' }:=S.all (t:=s.toks) k
 exact ai (h A _ _ hb (hf.evo S V (V.evo S ev) ev.toS) S' (V.evo S ev) (hs.mono ev.ext)) (λO O z=>gv.after ev.toS z) λO O z=>z.after ev.toS
end
section
variable {c:Cx} {n:Nat} {env:Env} {m:Loc} {L:ah} {Q:ad} {X:ac}
theorem aA.less {h:Heap} {F F':List Addr} (x:aA c h F env m) (k:∀ b,b∈F'->b∈F):aA c h F' env m:=by
 show[an x.ns λmm hn hv=>?_,⟨x.kind,x.glob,x.blt,⟨mm,hn,λy v h1 h2=>?_⟩,λy v h1 h2=>?_,x.cells,x.inj,x.loc⟩]
 ·show(an (hv y v h1 h2) λrv a b=>?_,⟨rv,a,b.less k⟩)
 ·show(fg (x.cell y v h1 h2) λa rv p q r=>?_,⟨a,rv,p,q,r.less k⟩)
theorem bv.pre {t:Sem Ae} {L':ah} (p:L'.Perm L) (h:bv c n env m t L Q X):bv c n env m t L' Q X:=by
 intro A s hb hf S V
 have i:∀ x,x∈foot L'↔x∈foot L:=λx=>(aP p).mem_iff
 have iR:∀ x,x∈foot (c.R++L')↔x∈foot (c.R++L):=λx=>(aP (p.append_left c.R)).mem_iff
 refine ai (h A s hb hf (S.perm p) (V.less λb hb=>(iR b).mpr hb)) (λO O g=>?_) λO O g=>?_
 ·obtain ⟨v,L1,q,S1,hv,ev⟩:=g
  exact ⟨v,L1,q,S1,hv,ev.more λx hx=>(i x).mpr hx⟩
 ·obtain ⟨C,L1,q,S1,hv,ev⟩:=g
  exact ⟨C,L1,q,S1,hv,ev.more λx hx=>(i x).mpr hx⟩
theorem ahq {P L0:ah} {t:Sem Ae} (p:L.Perm (P++L0)) (h:bv (hO c P) n env m t L0 (λv L'=>Q v (P++L')) (λC L'=>X C (P++L'))):bv c n env m t L Q X:=.pre p (alr h)
theorem ae.lock {P L0:ah} {f:Ae} {vs:List V} (p:L.Perm (P++L0)) (h:ae (hO c P) n f vs L0 (λv L'=>Q v (P++L')) (λC L'=>X C (P++L'))):ae c n f vs L Q X:=by
 refine .pre p ⟨λA s r hb hf S V=>?_⟩
 have eF:=jH (c:=c) (L:=L0) (P:=P)
 refine ai (h.go A s r hb (hf.cx rfl rfl) S.lock (by show bT s.heap (foot ((hO c P).R++L0)) vs r;rw [eF];exact V)) (λr s' g=>?_) λe s' g=>?_
 ·obtain ⟨v,L',q,S',hv,e⟩:=g
  exact ⟨v,P++L',q,S'.unlock,by have:VR s'.heap (foot ((hO c P).R++L')) v r:=hv;rw [jH] at this;exact this,e.unlock⟩
 ·obtain ⟨C,L',q,S',ex,ev⟩:=g
  exact ⟨C,P++L',q,S'.unlock,ex,ev.unlock⟩
end
noncomputable def allB {α:Type} (P:α->Bool) (n:Nat):KasT α->Bool
 | .ret a=>P a
 | .ask i j k=>Iz i n&&Iz j n&&allB P n (k true)&&allB P n (k false)
theorem adv {α:Type} {P:α->Bool} {n:Nat} {cmp:Nat->Nat->(Bool->Ad->Prop)->Ad->Prop} {s:Ad} {Q:α->Ad->Prop} (hc:∀ i j,i <n->j <n->∀ C:Bool->Ad->Prop,(∀ b,C b s)->cmp i j C s) (q:∀ a,P a=true->Q a s) (t:KasT α):allB P n t=true->t.kasWp cmp Q s:=by
 induction t with
 | ret a=>exact λh=>q a h
 | ask i j k ih=>
  intro h
  have h:=(Al _ _).mp (show (Iz i n&&Iz j n&&allB P n (k true)&&allB P n (k false))=true from h)
  have h2:=(Al _ _).mp h.1
  have h3:=(Al _ _).mp h2.1
  refine hc i j (Nat.blt_eq.mp h3.1) (Nat.blt_eq.mp h3.2) _ λb=>ih b ?_
  cases b with
  | true=>exact h2.2
  | false=>exact h.2
theorem apn:allB (λp=>p.toList.isPerm [0,1]) 2 (kas_sort 2)=true:=by decide+kernel
theorem apo:allB (λp=>p.toList.isPerm [0,1,2]) 3 (kas_sort 3)=true:=by decide+kernel
section
variable {w:World} {A:Around} {s:Ad} {E:Ae->Ad->Prop}
theorem sk {a:Addr} {vs:List Ae} {n:Nat} {W:List Ae->Prop} {P:Eo->Ad->Prop} (ho:s.heap.get? a=some (AP "list" vs.toArray n)) (h64:vs.length <64)
 (small:vs.length <2->W vs)
 (run:2≤vs.length->∀ s':Ad,(∀ b o,b≠a->s.heap.get? b=some o->s'.heap.get? b=some o)->AF (At pw w) A (keyKind' vs.toArray) (λκ s''=>s''=s'∧(kas_sort vs.length).kasWp (kas_ask pw w A κ vs) (λp s3=>s3=s'∧p.size=vs.length∧W (p.toList.map λi=>vs.getD i B4)) s') (λO O=>False) s')
 (h:∀ out,W out->P (.done (.ret .none)) { s with heap:=sortedHeap s.heap a vs out.toArray }):
 AF (At pw w) A (BW.«list.sort» ⟨[.ref a],[]⟩) P E s:=by
 rw [list_sort_plain]
 have ha:a <s.heap.objs.size:=AZ ho
 show[Ac (listItems_at ho rfl ?_),Ac (HJ ho rfl ?_ (by rw [Bl,AQ];lia) (BQ _))]
 obtain ⟨e1,ho1⟩:∃ e1,(s.heap.update a (Ci λO=>(#[]:Array Ae))).get? a=some (AP "list" #[] e1):=⟨_,get?_update_seq ho λO=>#[]⟩
 show[Ac (IY ho1 rfl ?_),Ac (G8 ?_ (by show vs.length≤_;rw [AQ];lia)),Ac (wpAny_newList ?_ (BQ _)),BF]
 have ho6:(((s.heap.update a (Ci λO=>(#[]:Array Ae))).push (AP "tuple" vs.toArray 0)).push (AP "list" #[] 0)).get? a=some (AP "list" #[] e1):=by
  rw [Eb _ _ _ (by rw [size_push',F8];exact Cb (Co ha)),Eb _ _ _ (by rw [F8];exact Cb ha)]
  exact ho1
 have keep:∀ b o,b≠a->s.heap.get? b=some o->(((s.heap.update a (Ci λO=>(#[]:Array Ae))).push (AP "tuple" vs.toArray 0)).push (AP "list" #[] 0)).get? b=some o:=λb o hb e=>
  Aj _ (Aj _ (by rw [Hz _ _ _ _ hb];exact e))
 show AF (At pw w) A _ P E { s with heap:=((s.heap.update a (Ci λO=>(#[]:Array Ae))).push (AP "tuple" vs.toArray 0)).push (AP "list" #[] 0) }
 dsimp only
 by_cases h2:vs.toArray.size <2
 ·rw [if_pos h2,if_pos h2]
  refine Ac (An ?_)
  rw [StateT.run_pure]
  refine Ac (An ?_)
  dsimp only
  refine Ac (IY ho6 rfl ?_)
  have ep:(arrOf (SortSt.mk' general' (vs.toArray.zip vs.toArray) #[] 7 none)).map (·.2)=vs.toArray:=by
   show (vs.toArray.zip vs.toArray).map (·.2)=_
   exact Array.map_snd_zip (AL _)
  rw [ep]
  refine Ac (HJ ho6 rfl ?_ (BQ _) (by show vs.length≤_;rw [AQ];lia))
  show AF (At pw w) A (if (e1 != e1)=true then _ else _) P E _
  rw [if_neg (by simp)]
  exact An (h vs (small h2))
 ·rw [if_neg h2,if_neg h2]
  show[Ac (BC (run (Nat.not_lt.mp h2) _ keep) (λκ s0 hk=>?_) λO O x=>x.elim),bS hk]
  clear hk
  intro q1' hk
  subst q1'
  refine Ac (BC (kat_run (Q:=λst' s'=>∃ p:Array Nat,arrOf st'=p.map (kas_item (vs.toArray.zip vs.toArray))∧failedOf st'=none∧s'=_∧p.size=vs.length∧W (p.toList.map λi=>vs.getD i B4))
   rfl (Nat.not_lt.mp h2) h64 (λp' st' s' a1 a2 a3 a4=>⟨p',a2,a3,a4.1,a4.2.1,a4.2.2⟩) hk) ?_ λO O e=>e)
  rintro ⟨⟨⟩,st'⟩ s' ⟨p,har,hf,rfl,hsz,hW⟩
  dsimp only
  rw [kat_snds rfl har]
  show[Ac (IY ho6 rfl ?_),Ac (HJ ho6 rfl ?_ (BQ _) (by rw [Bl,Af,ER,hsz,AQ];lia))]
  rw [hf]
  show AF (At pw w) A (if (e1 != e1)=true then _ else _) P E _
  rw [if_neg (by simp)]
  exact An (h _ hW)
theorem yg {l:Addr} {vs:List Ae} {W:List Ae->Prop} {Q:Ae->Ad->Prop} (hl:s.heap.IsList l vs.toArray) (h64:vs.length <64) (small:vs.length <2->W vs)
 (run:2≤vs.length->∀ s':Ad,(∀ b o,s.heap.get? b=some o->s'.heap.get? b=some o)->AF (At pw w) A.in1.in1 (keyKind' vs.toArray) (λκ s''=>s''=s'∧(kas_sort vs.length).kasWp (kas_ask pw w A.in1.in1 κ vs) (λp s3=>s3=s'∧p.size=vs.length∧W (p.toList.map λi=>vs.getD i B4)) s') (λO O=>False) s')
 (h:∀ out,W out->Q (.ref (s.heap.objs.size+1)) { s with heap:=sortedAll s.heap vs out.toArray }):AF (At pw w) A (call (.builtin "sorted") [.ref l]) Q E s:=by
 show[Calls.call_function_entry kind_sorted plain_sorted entry_sorted (args_sorted1 _)]
 unfold BW.«sorted»
 show[Ac (m:=checkCount "sorted" 1 1 _) (An ?_),Ac (collect_list hl ?_ (by rw [AQ];lia)),Ac (wpAny_newList ?_ (by rw [AQ];lia))]
 have hsz:((s.heap.push (AP "list" #[] 0)).update s.heap.objs.size (Ci (·++vs.toArray))).objs.size=s.heap.objs.size+1:=by
  rw [F8,size_push']
 have hoL:(((s.heap.push (AP "list" #[] 0)).update s.heap.objs.size (Ci (·++vs.toArray))).push (AP "list" vs.toArray 0)).get? (s.heap.objs.size+1)=some (AP "list" vs.toArray 0):=by
  rw [← hsz];exact Ax _ rfl
 have keep:∀ b o,s.heap.get? b=some o->(((s.heap.push (AP "list" #[] 0)).update s.heap.objs.size (Ci (·++vs.toArray))).push (AP "list" vs.toArray 0)).get? b=some o:=λb o q=>by
  have hlt:b <s.heap.objs.size:=AZ q
  rw [Eb _ _ _ (by rw [hsz];exact Cb (Co hlt)),Hz _ _ _ _ (Cb hlt),Eb _ _ _ (Cb hlt)]
  exact q
 show AF _ _ _ _ _ { s with heap:=((s.heap.push (AP "list" #[] 0)).update s.heap.objs.size (Ci (·++vs.toArray))).push (AP "list" vs.toArray 0) }
 rw [hsz]
 refine Ac (BF (El slot_list_sort ⟨_,hoL,rfl⟩ entry_list_sort ?body (args_list_sort _)))
 case body=>
  show(sk hoL h64 small (λh2 s' k=>run h2 s' λb o e=>k b o (Cb (Co (AZ e))) (keep b o e)) λout hW=>?_,⟨_,rfl,An ⟨_,rfl,h out hW⟩⟩)
end
abbrev bP:Type:=Str × Int
noncomputable abbrev c7 (r:bP):V:=.tup [.str r.1,.int r.2]
theorem y9 {h:Heap} {F:List Addr} {r:bP} {v:Ae} (x:VR h F (c7 r) v):∃ a n t u,v=.ref a∧h.get? a=some ⟨.type "tuple",.none,.seq ⟨[.str r.1 t,.int r.2 u]⟩ n,#[]⟩:=by
 show(jC x.inv λvs a n q1' hF hg hs=>?_,fg hs.two λr1 r2 e h1 h3=>?_,aE h1.inv λt e1=>aE h3.inv λu e2=>?_,⟨a,n,t,u,q1',by rw [hg,e,e1,e2]⟩)
theorem aao {h h':Heap} {F:List Addr} (k:∀ b o,h.get? b=some o->h'.get? b=some o) {rows:List bP}:∀ {vs:List Ae},bT h F (rows.map c7) vs->∃ fs,KatTups h' vs fs∧fs.length=rows.length∧∀ v∈fs,∃ x t,v=Dj x t:=by
 induction rows with
 | nil=>intro vs x;rw [x.un0];exact ⟨[],.nil,rfl,λO h=>by cases h⟩
 | cons r rows ih=>
  intro vs x
  show[fg x.unc λu us e x xs=>?_,e41 (y9 x) λa n t w e2 hg=>?_,ec (ih xs) λfs h1 h2 h3=>?_]
  rw [e,e2]
  exact ⟨.str r.1 t::fs,.cons (k _ _ hg) rfl rfl rfl h1,congrArg Fb h2,λv hv=>(List.mem_cons.mp hv).elim (λe=>⟨_,_,e⟩) (h3 v)⟩
theorem adw {h:Heap} {F:List Addr} {rows:List bP} {vs:List Ae} (x:bT h F (rows.map c7) vs) {l:List Nat}:(∀ i∈l,i <rows.length)->bT h F ((l.map λi=>rows.getD i (default,0)).map c7) (l.map λi=>vs.getD i B4):=by
 induction l with
 | nil=>exact λO=>.nil
 | cons i l ih=>
  intro hl
  have hi:=hl i (.head _)
  have e:rows[i]?=some rows[i]:=AB hi
  show[an (x.at (k:=i) (v:=c7 rows[i]) (by rw [AE,e];rfl)) λr h1 h2=>?_,.cons ?_ (ih λj hj=>hl j (.tail _ hj))]
  show VR h F (c7 (rows.getD i (default,0))) (vs.getD i B4)
  rw [Ak,e,Ak,h1]
  exact h2
section
variable {c:Cx} {n:Nat} {L:ah} {Q:ad} {X:ac}
theorem aap {rows:List bP} {l:List Nat} (h:l.Perm (CG rows.length)):(l.map λi=>rows.getD i (default,0)).Perm rows:=by
 refine (h.map _).trans (List.Perm.of_eq (C2 (by rw [Af,Ba]) λi h1 h2=>?_))
 rw [List.getElem_map,HX,Ak,AB h2];rfl
theorem uy {rows:List bP} (hz:rows.length≤3) (h:∀ rows':List bP,rows'.Perm rows->Q (.list (rows'.map c7)) L):ae c n (.builtin "sorted") [.list (rows.map c7)] L Q X:=by
 show[.leaf λA s rs hb hf S hv=>?_,an hv.one λr q1' hr=>?_]
 subst q1'
 refine jC hr.inv λvs b k q1' hF hg hs=>?_
 subst q1'
 have hl:vs.length=rows.length:=by rw [hs.len,Af]
 refine yg (W:=λout=>∃ rows':List bP,rows'.Perm rows∧bT s.heap (foot (c.R++L)) (rows'.map c7) out) ⟨_,hg,rfl,_,rfl⟩ (by lia) (λO=>⟨rows,.refl _,hs⟩) (λh2 s' k=>?_) λout hW=>?_
 ·show[ec (aao k hs) λfs t1 t2 t3=>?_,kat_kind t1 (by lia) (T:=.type "str") (λv hv=>by refine e20 (t3 v hv) λx t q1'=>?_;subst q1';exact .now) (by decide) ⟨rfl,?_⟩]
  have ask:∀ i j,i <rows.length->j <rows.length->∀ C:Bool->Ad->Prop,(∀ b,C b s')->kas_ask pw c.w A.in1.in1 (tuples' (Value.type "str" != Value.type "tuple")) vs i j C s':=λi j hi hj C hC=>by
   have at1:∀ i,i <rows.length->∃ a n x t y u,vs.getD i B4=.ref a∧s'.heap.get? a=some ⟨.type "tuple",.none,.seq ⟨[.str x t,.int y u]⟩ n,#[]⟩:=λi hi=>by
    show[an (hs.at (k:=i) (v:=c7 rows[i]) (by rw [AE,AB hi];rfl)) λr h1 h2=>?_,e41 (y9 h2) λa n t u q1' hg=>?_]
    subst q1'
    exact ⟨a,n,_,t,_,u,by rw [Ak,h1];rfl,k _ _ hg⟩
   show[e61 (at1 i hi) λa1 n1 x1 t1 y1 u1 e1 g1=>?_,e61 (at1 j hj) λa2 n2 x2 t2 y2 u2 e2 g2=>?_]
   unfold kas_ask
   rw [e1,e2]
   refine kat_lt g1 rfl g2 rfl (kat_cons (wpAny_eqBool_str (kat_go (λO=>kat_yes (kat_cons (wpAny_eqBool_int (kat_go (λO=>kat_yes (kat_nil (hC _))) λO=>kat_no (kat_one _ _ (P.lt_int (hC _))))))) λO=>kat_no (oneLt_str (hC _)))))
  have fin:∀ p:Array Nat,p.toList.isPerm (CG rows.length)=true->p.size=vs.length∧∃ rows':List bP,rows'.Perm rows∧bT s.heap (foot (c.R++L)) (rows'.map c7) (p.toList.map λi=>vs.getD i B4):=λp hp=>by
   have hp:=List.isPerm_iff.mp hp
   exact ⟨by rw [← ER,hp.length_eq,Ba,hl],_,aap hp,adw hs λi hi=>List.mem_range.mp (hp.mem_iff.mp hi)⟩
  rw [hl]
  rw [hl] at h2 fin
  have hh:rows.length=2∨rows.length=3:=by lia
  rcases hh with hh | hh
  ·rw [hh] at ask fin ⊢
   exact adv ask (λa ha=>⟨rfl,fin a ha⟩) _ apn
  ·rw [hh] at ask fin ⊢
   exact adv ask (λa ha=>⟨rfl,fin a ha⟩) _ apo
 ·show[an hW λrows' hp hW=>?_,aE (sortedAll_at s.heap vs out.toArray) λe he=>?_]
  have no:s.heap.objs.size+1∉foot (c.R++L):=λhm=>by
   show(aE (S.heap_of hm) λo e=>?_,Nat.not_lt_of_le (Br _) (AZ e))
  exact dC S (h rows' hp) (λO O=>sortedAll_old) (.list no he (hW.mono ⟨λO O e O O=>sortedAll_old e,λO hb=>.inl hb⟩))
end
theorem aA.caught {c:Cx} {L L':ah} {env:Env} {m:Loc} {s:Ad} {h':Heap} (hFr:∀ b∈c.Fr,b∈ig env) (S:St c L s) (V:aA c s.heap (foot (c.R++L)) env m)
 (k:∀ b o,s.heap.get? b=some o->b∉foot L->∃ sl,h'.get? b=some { o with slots:=sl }∧(b∉c.Fr->sl=o.slots)) (grow:∀ b∈foot L',b∈foot L∨s.heap.get? b=none):aA c h' (foot (c.R++L')) env m:=by
 have ext:bx (foot (c.R++L)) (foot (c.R++L')) s.heap h':=⟨λb o e sq hb=>by
  refine an (k b o e λq=>hb (by unfold foot;rw [Bx];exact Aa _ q)) λsl h1 h2=>?_
  have nf:b∉c.Fr:=λq=>by obtain ⟨_,o',e',ns⟩:=V.own (hFr b q);rw [e] at e';cases e';exact ns sq
  rw [h1,h2 nf],λb hb=>by
  unfold foot at hb ⊢
  rw [Bx] at hb ⊢
  rcases List.mem_append.mp hb with q | q
  ·exact .inl (Ag _ q)
  ·exact (grow b q).imp (Aa _) id⟩
 have cell:∀ {a:Addr} {v:Option Ae},a∈c.Fr->s.heap.IsCell a v->h'.IsCell a v:=λha ⟨o,e,d⟩=>by
  show(an (k _ o e (S.out ha)) λsl h1 O=>?_,⟨_,h1,d⟩)
 show[an V.ns λmm q1' hv=>?_,e32 q1' λo es ep ho hd r=>?_,⟨V.kind,V.glob,V.blt,⟨mm,?_,λx v h1 h2=>?_⟩,λx v h1 h2=>?_,λx a h1=>?_,V.inj,V.loc⟩]
 ·show(an (k _ o ho (S.out V.loc)) λsl h1 O=>?_,⟨_,es,ep,h1,hd,r⟩)
 ·show(an (hv x v h1 h2) λrv p q=>?_,⟨rv,p,q.mono ext⟩)
 ·show(fg (V.cell x v h1 h2) λa rv p q r=>?_,⟨a,rv,p,cell (V.cells x a p).1 q,r.mono ext⟩)
 ·obtain ⟨p,q,v,r⟩:=V.cells x a h1
  exact ⟨p,q,v,cell p r⟩
theorem vZ {h:Heap} {a:Addr} {o:Obj} {f:Obj->Obj} (ho:h.get? a=some o) (hf:f o=o):h.update a f=h:=by
 refine bS (Heap.get?_some_iff.mp ho) λe1 O=>?_
 cases h with
 | mk objs l=>
  have:objs.modify a f=objs:=H1 λi=>by
   rw [GM]
   by_cases q:a=i
   ·subst q
    rw [if_pos rfl,e1]
    exact congrArg some hf
   ·rw [if_neg q]
  show (⟨objs.modify a f,l⟩:Heap)=_
  rw [this]
theorem aaq {M:Model} {A:Around} {E:Ae->Ad->Prop} {s:Ad} {env:Env} {body:Sem Flow} {h₀:ExceptHandler} {hs:List ExceptHandler} {Q:Flow->Ad->Prop}
 (h:av M A body Q (λe s₁=>av M A (Hk env e) (λO s₃=>av M A (handleBy e env (h₀::hs)) Q E s₃) E s₁) s):
 av M A (tryStmt false body (h₀::hs) (pure .next) [] env) Q E s:=by
 delta tryStmt
 show av M A (if _ then _ else _) Q E s
 rw [if_pos rfl]
 refine am (sI (ai h (λf s₁ h₁=>?_) λe s₁ h₁=>?_))
 ·cases f <;> exact aq h₁
 ·show av M A (do DZ e env;setFlight e none;handleBy e env (h₀::hs)) _ E s₁
  rw [show (do DZ e env;setFlight e none;handleBy e env (h₀::hs))=(Hk env e>>=λO=>handleBy e env (h₀::hs)) by unfold Hk;rw [bind_assoc]]
  exact am h₁
noncomputable def pf (c:Cx) (env:Env) (m:Loc) (b:Stmt) (L:ah) (N:a8) (R:ad) (K:a8):Prop:=
 ∀ (A:Around) (E:Ae->Ad->Prop) (s:Ad),St c L s->aA c s.heap (foot (c.R++L)) env m->AF (At pw c.w) A (Cw [b] env) (tN c env L s N R K) E s
section
variable {c:Cx} {n:Nat} {env:Env} {m:Loc} {L:ah} {N:a8} {R:ad} {K:a8} {X:ac}
theorem aar {b:Bool} {k:Nat} {p1 p2:Pos} (h:R (.bool b) L):pf c env m (.Return (some (.Constant (.bool b) k p1)) p2) L N R K:=λA E s S V=>
 Ep (wpAny_Return_some (EQ ⟨.bool b,L,h,S,.bool b,bD.refl _ _⟩))
theorem aas {x:Str} {b:Bool} {k:Nat} {p1 p2 p3:Pos} (hx:gx env x=true) (h:N ((x,.bool b)::m) L):pf c env m (.Assign [.Name x p1] (.Constant (.bool b) k p2) p3) L N R K:=λA E s S V=>
 Ep (wpAny_Assign_Name (EQ (V.store S (.bool b) hx λs' S' V' e=>Df ⟨_,L,h,S',V',e⟩)))
theorem apq {e:Expr} {pe np hp p:Pos} {x:Str} {C0:Addr} {b:Stmt} (hFr:∀ b∈c.Fr,b∈ig env) (hi:Ey env=false) (hsw:Hj e none pe.line env=pure false)
 (hk:env.kindOf x=some .globalImplicit) (ht:(oU x.cps.size).lookup x=some (.ref C0)) (hd:(x==("__debug__":Str))=false)
 (h:bv c n env m (eval e env) L (λO L1=>N m L1) (λC L1=>(∀ P,exmOne (K0 P) (.ref C) (.ref C0)=some true)∧pf c env m b L1 N R K)):
 fD c env n m (exec (.Try [.Expr e pe] [.ExceptHandler (some (.Name x np)) none [b] hp] [] [] p) env) L N R K X:=by
 intro A s hb hf S V
 rw [arm_exec_Try]
 show[bM]
 rw [show Cw [] env=pure .next from rfl]
 refine aaq (lM (acg (ai (h A s hb hf.ok S V) (λrv s1 g=>?_) λev s1 g=>?_) hi hsw))
 ·obtain ⟨v,L1,q,S1,_,e1⟩:=g
  exact .of (Df ⟨m,L1,q,S1,V.evo S e1,e1.toS⟩)
 ·obtain ⟨C,L1,⟨hm,hs⟩,S1,⟨a,rfl,ha,tr⟩,ex⟩:=g
  refine an hf.at_ λouter hA hF=>?_
  have hF1:∀ y∈env::outer,FrE c s1.heap y:=λy hy=>(hF y hy).of λb o es ep hb ho hd=>by
   show(an (ex.keep b o ho (S.out hb)) λsl e1 O=>?_,⟨_,es,ep,e1,hd⟩)
  refine .of (vm hA hF1 S.base S1 ha (.traced tr) ex.live λh' S2 exc hF2 lv kp=>?_)
  have keep:∀ b o,s.heap.get? b=some o->b∉foot L->∃ sl,h'.get? b=some { o with slots:=sl }∧(b∉c.Fr->sl=o.slots):=λb o e hb=>by
   show(an (ex.keep b o e hb) λsl h1 h2=>?_,an (kp b _ h1 (by rw [e];simp)) λsl' h3 h4=>?_,⟨sl',h3,λq=>by rw [h4 q];exact h2 q⟩)
  have V2:aA c h' (foot (c.R++L1)) env m:=V.caught hFr S keep ex.grow
  have ev2:b8 env L L1 s { s1 with heap:=h' }:=⟨λb o e hb=>by
   refine an (keep b o e λq=>hb (Aa _ q)) λsl h1 h2=>?_
   rw [h1,h2 λq=>hb (Ag _ (hFr b q))],lv,λb hb=>(List.mem_append.mp hb).elim (λq=>.inl (Ag _ q)) λq=>(ex.grow b q).imp (Aa _) id,ex.os⟩
  refine ec exc.at_ λa' e' O tr2=>?_
  cases e'
  refine e58 tr2 λoe vs T oT ts he hcls hdd h1 hnT hTe hT hdT h3=>?_
  have LT:Dp (At pw c.w) h' (FJ (.ref a)) (.ref C):=(FU he).andThen (by rw [hcls];exact .now)
  show[.of (wpAny_handleBy_cons (codeAny_handlers_test (BR V.kind hk ?_ hd)) (by intro q;cases q)),vp (z7 ht c.w.params).1 (s:={ s1 with heap:=h' }) S2 V2,(exm_one S2.K LT (hm _)).here]
  rw [if_pos rfl]
  dsimp only
  refine codeAny_handlers_suite (wpAny_setFlight_none he hdd h1 hT hdT (Array.getElem?_eq_some_iff.mp h3).1 ?_)
  have sm:h'.update T (Obj.mapFields (·.setIfInBounds 3 .none))=h':=vZ hT (by
   cases oT with
   | mk a1 a2 a3 a4=>
    cases hdT
    have:ts.setIfInBounds 3 B4=ts:=H1 λi=>by
     rw [Array.getElem?_setIfInBounds]
     by_cases q:3=i
     ·subst q
      rw [if_pos rfl,if_pos (Array.getElem?_eq_some_iff.mp h3).1,h3]
     ·rw [if_neg q]
    show (Obj.mk a1 a2 (.fields (ts.setIfInBounds 3 B4)) a4)=_
    rw [this])
  show AF _ _ _ _ _ { s1 with heap:=h'.update T _ }
  rw [sm]
  exact BC (hs _ _ _ S2 V2) (λf s3 g=>g.after ev2) λO O z=>z
end
noncomputable def kin (l:List Nat) (e:Expr):Bool:=l.any (Gi e.ctorIdx)
noncomputable def ajo (e:Expr):Bool:=kin [22] e
noncomputable def apr (Q:ad) (L:ah):V->Prop
 | .str _=>Q (.bool true) L
 | .bytes _=>Q (.bool false) L
 | _=>False
theorem aat {w:World} {A:Around} {E:Ae->Ad->Prop} {s:Ad} {b:Array UInt8} {u:Tok} {Q:Ae->Ad->Prop} (h:Q (.bool false) { s with toks:=s.toks+1 }):AF (At pw w) A (call (.builtin "isinstance") [.bytes b u,.type "str"]) Q E s:=by
 obtain ⟨hh,g,d,tk,os⟩:=s
 exact call_isinstance_of (isinstance_nested_false_bytes (by decide) F.isi_meta_str (by rw [C3];kernel_rfl) h) (by intro e;cases e)
section
variable {c:Cx} {n:Nat} {env:Env} {m:Loc} {L:ah} {Q:ad} {N:a8} {R:ad} {K:a8} {X:ac}
theorem glo {A:Around} {s:Ad} {x:Str} {f:Ae} {E:Ae->Ad->Prop} {P:Ae->Ad->Prop} (ht:(oU x.cps.size).lookup x=some f) (S:St c L s) (V:aA c s.heap (foot (c.R++L)) env m) (w:P f s):AF (At pw c.w) A (loadGlobal env x) P E s:=vp (z7 ht c.w.params).1 S V w
theorem apt {a:Expr} {np sp pos:Pos} (hk:env.kindOf "isinstance"=some .globalImplicit) (hs:env.kindOf "str"=some .globalImplicit) (ha:ajo a=false) (h:bv c n env m (eval a env) L (λv L1=>apr Q L1 v) X):
 bv c n env m (eval (.Call (.Name "isinstance" np) [a,.Name "str" sp] [] pos) env) L Q X:=by
 intro A s hb hf S V
 have e1:Ay [a,.Name "str" sp] env=[(false,eval a env),(false,eval (.Name "str" sp) env)]:=by cases a <;> first | rfl | cases ha
 show[dz (.of (BR V.kind hk (glo (x:="isinstance") (f:=.builtin "isinstance") (by kernel_rfl) S V ?_) rfl)),eu (P:=λh=>(K0 c.w.params).In h) (by rw [e1];rfl) (λh X=>cY (f:=.builtin "isinstance") rfl h X) (ew (by rw [e1];rfl) ?_)]
 rw [e1]
 refine cV (ai (h A s hb hf S V) (λr1 s1 g1=>?_) λO O z=>z)
 obtain ⟨v1,L1,k1,S1,x1,ev⟩:=g1
 show[cV (.of (BR V.kind hs (glo (x:="str") (f:=.type "str") (by kernel_rfl) S1 (V.evo S ev) ?_) rfl)),.of (EA ⟨S1.K,.of ?_⟩)]
 cases x1 with
 | str x t=>exact call_isinstance_yes rfl F.isi_meta_str F.sub_str_str ⟨_,L1,k1,S1,.bool _,ev⟩
 | bytes b t=>exact aat ⟨_,L1,k1,S1.toks _,.bool _,ev.trans (.toks _ _ _)⟩
 | _=>exact k1.elim
theorem apu {M:Model} {A:Around} {E:Ae->Ad->Prop} {s:Ad} {x y:Expr} {pos:Pos} {Q:Ae->Ad->Prop} (h:av M A (eval x env) (λv s₁=>av M A (FH v) (λt s₂=>if t then Q v s₂ else av M A (eval y env) Q E s₂) E s₁) E s):av M A (eval (.BoolOp .Or [x,y] pos) env) Q E s:=by
 refine aw (t:=eval x env) h λv s₁ h₁=>bM (aw (aH h₁) λt s₂ h₂=>?_)
 cases t with
 | true=>exact aq h₂
 | false=>exact h₂
theorem apv {x y:Expr} {pos:Pos} (h:bv c n env m (eval x env) L (λv L1=>∃ t,v=.bool t∧bZ t (Q (.bool true) L1) (bv c n env m (eval y env) L1 Q X)) X):bv c n env m (eval (.BoolOp .Or [x,y] pos) env) L Q X:=by
 intro A s hb hf S V
 refine apu (ai (h A s hb hf S V) (λr1 s1 g1=>?_) λO O z=>z)
 obtain ⟨v1,L1,⟨t,rfl,k⟩,S1,x1,e1⟩:=g1
 cases x1 with
 | bool _=>
 refine .of (Ca ?_)
 cases t with
 | true=>exact ⟨_,L1,k,S1,.bool _,e1⟩
 | false=>exact ai (k A s1 hb (hf.evo S e1) S1 (V.evo S e1)) (λO O z=>z.after e1) λO O z=>z.after e1
theorem aau {elts:List Expr} {pos:Pos} (h:cI c n env m (AY pos (Ay elts env)) L (λvs L1=>vs.length≤1000∧∀ a,Q (.obj a) ((a,.lst vs)::L1)) X):bv c n env m (eval (.List elts pos) env) L Q X:=by
 intro A s hb hf S V
 refine xB (ai (h A s hb hf S V) (λrs s1 g1=>?_) λO O z=>z)
 obtain ⟨vs,L1,⟨hl,k1⟩,S1,x1,e1⟩:=g1
 refine ⟨by rw [x1.len,AQ];lia,cD.after e1 ?_⟩
 obtain ⟨S',ev⟩:=S1.new (a:=s1.heap.objs.size) (x:=.lst vs) (h':=s1.heap.push { cls:=.type "list",data:=.seq rs.toArray }) (tk:=s1.toks) (λO O e=>Aj _ e) (λb hb=>by simp [aM] at hb;exact BM hb.symm) (by simp [aM])
  ⟨rs,0,Ax _ rfl,x1.mono ⟨λO O e O O=>Aj _ e,λb hb=>by
   rw [ar] at hb ⊢
   rcases List.mem_append.mp hb with q | q
   ·exact .inl (Ag _ q)
   ·rcases List.mem_cons.mp q with q | q
    ·exact .inr (q▸aL _)
    ·exact .inl (Aa _ q)⟩⟩
 exact ⟨_,_,k1 _,S',.obj _,ev⟩
theorem fD.freeze {t:Sem Flow} {x:Str} {a:Addr} {l:List V} {L1:ah} (hx:m.lookup x=some (.obj a)) (hp:bW L a (.lst l) L1) (h:fD c env n ((x,.list l)::m) t L1 N R K X):fD c env n m t L N R K X:=by
 intro A s hb hf S V
 refine bS ((S.perm hp.perm).freeze) λS1 v1=>?_
 have sub:∀ b,b∈foot L1->b∈foot L:=fH λp hq=>hp.perm.mem_iff.mpr (.tail _ hq)
 have subR:∀ b,b∈foot (c.R++L1)->b∈foot (c.R++L):=fH λp hq=>(List.mem_append.mp hq).elim (Ag _) λq=>Aa _ (hp.perm.mem_iff.mpr (.tail _ q))
 have V0:=V.less subR
 have V1:aA c s.heap (foot (c.R++L1)) env ((x,.list l)::m):=by
  have key:∀ y v rv,((x,Mine.V.list l)::m).lookup y=some v->(∀ v0,m.lookup y=some v0->VR s.heap (foot (c.R++L1)) v0 rv)->VR s.heap (foot (c.R++L1)) v rv:=λy v rv hl h0=>by
   rw [A7] at hl
   by_cases q:(y==x)=true
   ·rw [q] at hl
    cases hl
    have:=h0 (.obj a) (by rw [eq_of_beq q];exact hx)
    cases this
    exact v1
   ·rw [Dy] at q
    rw [q] at hl
    exact h0 _ hl
  have old:∀ y v,((x,Mine.V.list l)::m).lookup y=some v->∃ v0,m.lookup y=some v0:=λy v hl=>by
   rw [A7] at hl
   by_cases q:(y==x)=true
   ·exact ⟨_,by rw [eq_of_beq q];exact hx⟩
   ·rw [Dy] at q
    rw [q] at hl
    exact ⟨_,hl⟩
  show[an V0.ns λmm hn hv=>?_,⟨V0.kind,V0.glob,V0.blt,⟨mm,hn,λy v h1 h2=>?_⟩,λy v h1 h2=>?_,V0.cells,V0.inj,V0.loc⟩]
  ·show(aE (old y v h1) λv0 e0=>?_,an (hv y v0 e0 h2) λrv p q=>?_,⟨rv,p,key y v rv h1 λv0' e'=>by rw [e0] at e';cases e';exact q⟩)
  ·show(aE (old y v h1) λv0 e0=>?_,fg (V0.cell y v0 e0 h2) λb rv p q r=>?_,⟨b,rv,p,q,key y v rv h1 λv0' e'=>by rw [e0] at e';cases e';exact r⟩)
 have ev:b8 env L L1 s s:=((bD.refl (foot L) s).less sub).toS
 exact ai (h A s hb hf S1 V1) (λf s' z=>z.after ev) λO O z=>z.after ev
end
noncomputable def my {K:Type} (f:K->V) (p:K × V):V:=.tup [f p.1,p.2]
theorem al3 {K:Type} {h:Heap} {F:List Addr} {fs:List (K × V)} {kvs:List (K × Ae)} (y:bV h F fs kvs):∀ {j:Nat} {k:K} {x:Ae},kvs[j]?=some (k,x)->∃ v,fs[j]?=some (k,v)∧VR h F v x:=by
 induction y with
 | nil=>intro j k x e;cases e
 | cons hv hr ih=>
  intro j k x e
  cases j with
  | zero=>cases e;exact ⟨_,rfl,hv⟩
  | succ j=>exact ih (j:=j) e
theorem al4 {h:Heap} {F:List Addr} {l:List V}:∀ {us:List Ae},us.length=l.length->(∀ (j:Nat) (v:V) (u:Ae),l[j]?=some v->us[j]?=some u->VR h F v u)->bT h F l us:=by
 induction l with
 | nil=>
  intro us e k
  cases us with
  | nil=>exact .nil
  | cons=>cases e
 | cons v l ih=>
  intro us e k
  cases us with
  | nil=>cases e
  | cons u us=>exact .cons (k 0 v u rfl rfl) (ih (Nat.succ.inj e) λj v u a b=>k (j+1) v u a b)
section
variable {c:Cx} {n:Nat} {env:Env} {m:Loc} {L:ah} {Q:ad} {X:ac}
theorem yh {K:Type} [DecidableEq K] {w:World} {knd:KeyKind pw w K} {f:K->V} {A:Around} {s:Ad} {r d:Addr} {fs:List (K × V)} {kvs:List (K × Ae)} {F:List Addr} {E:Ae->Ad->Prop} {P:Ae->Ad->Prop}
 (hf:∀ (k:K) (v:Ae) (h:Heap),knd.is k v=true->VR h F (f k) v) (hh:A.handled=none) (hv:s.heap.IsItemsView r d) (hd:s.heap.DictOf knd d kvs) (he:bV s.heap F fs kvs) (hn:kvs.length≤100000) (hF:∀ a∈F,a <s.heap.objs.size)
 (k:∀ h' tk,(∀ b o,s.heap.get? b=some o->h'.get? b=some o)->VR h' F (.list (fs.map (my f))) (.ref s.heap.objs.size)->P (.ref s.heap.objs.size) { s with heap:=h',toks:=tk }):
 AF (At pw w) A (call (.type "list") [.ref r]) P E s:=by
 show[aE hd.dictAt λep hm=>?_,kdx_call hh hv hm (by rw [AQ];lia) λh' tk dT cc as kp hS hl hG hacc=>k h' tk kp ?_]
 have nf:∀ a,s.heap.objs.size≤a->a∉F:=λa h q=>Nat.not_le.mpr (hF a q) h
 have el:=he.len
 refine .list (vs:=dT.toList) (n:=cc) (nf _ (AL _)) (by rw [hS]) (al4 (by rw [hacc,Af,Af,hl,el]) λj v u h1 h2=>?_)
 rw [hacc,AE] at h2
 refine an (Option.map_eq_some_iff.mp h2) λa ha q1'=>?_
 subst q1'
 show[e32 (hG.pairs j a ha) λkey kk x e1 e2 e3=>?_,an (al3 he e1) λv0 e4 e5=>?_]
 rw [AE,e4] at h1
 cases h1
 exact .tup (vs:=[key,x]) (nf _ (DA (hG.above a (Bc ha)))) e3 (.cons (hf _ _ _ e2) (.cons (e5.mono (dN kp)) .nil))
noncomputable def adx (c:Cx) (Q:ad) (L:ah) (v:V):Prop:=
 (∃ d fs,v=.obj d∧(d,aj.dS fs)∈c.R++L∧fs.length≤100000∧Q (.list (fs.map (my .str))) L)∨(∃ d fs,v=.obj d∧(d,aj.dI fs)∈c.R++L∧fs.length≤100000∧Q (.list (fs.map (my .int))) L)
theorem ahr {s:Ad} (S:St c L s):∀ a∈foot (c.R++L),a <s.heap.objs.size:=λa ha=>by
 show(an (List.mem_flatMap.mp ha) λp hp hb=>?_,an (pN (S.own p hp) hb) λo ho O=>?_,AZ ho)
theorem ady {o:Expr} {ap p1 np p2:Pos} {pl:Sem Bool} (hk:env.kindOf "list"=some .globalImplicit)
 (he:eval (.Call (.Attribute o (Ab "items") ap) [] [] p1) env=(do
  let ov ← eval o env
  DR ap.atName
  let (f,first) ← CW [ov] (DY ov (Ab "items") pl)
  Do p1 f first (AY p1 (Ay [] env)) []))
 (h:bv c n env m (eval o env) L (λv L1=>adx c Q L1 v) X):
 bv c n env m (eval (.Call (.Name "list" np) [.Call (.Attribute o (Ab "items") ap) [] [] p1] [] p2) env) L Q X:=by
 intro A s hb hf S V0
 show[dz (.of (BR V0.kind hk (glo (x:="list") (f:=.type "list") (by kernel_rfl) S V0 ?_) rfl)),eu (P:=λh=>(K0 c.w.params).In h) rfl (λh X=>cY (f:=.type "list") rfl h X) (ew rfl ?_),cV (lL (pl:=pl) (ai (h A s hb hf S V0) (λr1 s1 g1=>?_) λO O z=>z) he)]
 obtain ⟨v1,L1,k1,S1,x1,ev⟩:=g1
 have go:∀ {K:Type} [DecidableEq K] {knd:KeyKind pw c.w K} {f:K->V} {d:Addr} {fs:List (K × V)} {kvs:List (K × Ae)},(∀ (k:K) (v:Ae) (h:Heap),knd.is k v=true->VR h (foot (c.R++L1)) (f k) v)->s1.heap.DictOf knd d kvs->bV s1.heap (foot (c.R++L1)) fs kvs->(d==HV)=false->
  (∃ o,s1.heap.get? d=some o∧o.dict=none)->fs.length≤100000->Q (.list (fs.map (my f))) L1->r1=.ref d->
  av (At pw c.w) A (DY r1 (Ab "items") pl) (λfx s₂=>av (At pw c.w) A (Do p1 fx.1 fx.2 (AY p1 (Ay [] env)) []) (λv s₁=>av (At pw c.w) A (EW []) (λvs s₂=>(K0 c.w.params).In s₂.heap∧av (At pw c.w) A (call (.type "list") (v::vs)) (cD c L s Q) (bG c L s X) s₂) (bG c L s X) s₁) (bG c L s X) s₂) (bG c L s X) s1:=by
  intro K _ knd f d fs kvs hkf hD hE hms hdd hz q e1
  subst e1
  show[.of (getMethod_builtin hD.typeIs B6 C5 D5 (λb e=>by cases e;exact hdd) ?_),eu (P:=λh=>(K0 c.w.params).In h) rfl (λh X=>cY (f:=.builtin "dict.items") rfl h X) (ew rfl (.of (EA ⟨S1.K,.of ?_⟩))),Gm C5 hD.typeIs PySem.F.entry_dict_items (PySem.F.args_dict_items_1 _) (meets_dict_items knd d hms) ⟨⟨_,hD⟩,?_⟩]
  have kp:∀ b o,s1.heap.get? b=some o->(s1.heap.push { cls:=.type "dict_items",data:=.fields #[.ref d] }).get? b=some o:=λO O e=>Aj _ e
  show(.of (EA ⟨S1.K.keeps kp,.of ?_⟩),yh (s:={ s1 with heap:=s1.heap.push { cls:=.type "dict_items",data:=.fields #[.ref d] } }) (knd:=knd) (fs:=fs) (kvs:=kvs) (F:=foot (c.R++L1)) hkf hb.handled ⟨_,Ax _ rfl,rfl,rfl⟩ (hD.push _) (hE.mono (dN kp)) (by rw [hE.len];exact hz) (λa ha=>B1 (ahr S1 a ha) (by rw [size_push'];exact Br _)) λh' tk kp2 hvr=>?_,⟨_,L1,q,S1.all λb o e=>kp2 b o (kp b o e),hvr,ev.trans ⟨.all λb o e=>kp2 b o (kp b o e),.of λb o e=>⟨o,kp2 b o (kp b o e)⟩,λb hb=>.inl hb,rfl⟩⟩)
 rcases k1 with ⟨d,fs,rfl,hm,hz,q⟩ | ⟨d,fs,rfl,hm,hz,q⟩
 ·obtain ⟨_,rfl⟩:=x1.inv
  show[an (S1.own _ hm) λkvs hD hE=>?_,go (f:=.str) (λk v h e=>?_) hD hE (S1.notMods (b7 hm)) (hD.mapOf.noDict d rfl) hz q rfl]
  refine aE (Hv e) λt q1'=>?_;subst q1';exact .str _ _
 ·obtain ⟨_,rfl⟩:=x1.inv
  show[an (S1.own _ hm) λkvs hD hE=>?_,go (f:=.int) (λk v h e=>?_) hD hE (S1.notMods (b7 hm)) (hD.mapOf.noDict d rfl) hz q rfl]
  refine aE (Iu e) λt q1'=>?_;subst q1';exact .int _ _
end
noncomputable def uz (e:Expr):Bool:=kin [22] e
noncomputable def noStar (es:List Expr):Bool:=es.all λe=>!uz e
theorem fq {e:Expr} {r:List Expr} {env:Env} (h:uz e=false):Ay (e::r) env=(false,eval e env)::Ay r env:=by cases e <;> first | rfl | cases h
theorem cT {e:Expr} {r:List Expr} (h:noStar (e::r)=true):uz e=false∧noStar r=true:=by
 have h:(!uz e&&noStar r)=true:=h
 rw [Al,Bm] at h
 exact h
theorem eM {pos:Pos} {env:Env} {es:List Expr} (h:noStar es=true):(AY pos (Ay es env)).any (·.1)=false:=by
 induction es with
 | nil=>rfl
 | cons e r ih=>
  rw [fq (cT h).1]
  exact ih (cT h).2
theorem yi {pos:Pos} {env:Env} {es:List Expr} (h:noStar es=true):(AY pos (Ay es env)).all (!·.1)=true:=by
 induction es with
 | nil=>rfl
 | cons e r ih=>
  rw [fq (cT h).1]
  exact ih (cT h).2
structure OB (o:Expr) where
 b:Bool
 ok:b=true->∀ {x:Str} {env:Env} {t:Sem Ae},attributeBase o x env t=t
noncomputable def apw (o:Expr):OB o:=match o with
 | .Name _ _=>⟨true,λO O O O=>rfl⟩
 | .Attribute _ _ _=>⟨true,λO O O O=>rfl⟩
 | .Subscript _ _ _=>⟨true,λO O O O=>rfl⟩
 | .Constant _ _ _=>⟨true,λO O O O=>rfl⟩
 | .Call (.Attribute _ _ _) _ _ _=>⟨true,λO O O O=>rfl⟩
 | .Call (.Name _ _) (_::_) _ _=>⟨true,λO O O O=>rfl⟩
 | _=>⟨false,F9⟩
noncomputable def nW (o:Expr):Bool:=(apw o).b
theorem za {o:Expr} {x:Str} {env:Env} {t:Sem Ae} (h:nW o=true):attributeBase o x env t=t:=(apw o).ok h
theorem uA {o:Expr} {x:Str} {ap p:Pos} {args:List Expr} {env:Env} (hb:nW o=true) (hs:noStar args=true) (hl:Iz args.length 30=true) (hp:ap.endLine=p.line):
 eval (.Call (.Attribute o x ap) args [] p) env=(do
  let ov ← eval o env
  DR ap.atName
  let (f,first) ← CW [ov] (DY ov x (do return (← importBound o env).getD true))
  Do p f first (AY p (Ay args env)) []):=by
 rw [arm_eval_Call,za hb]
 have few:methodCallForm (args.length+([]:List Keyword).length) (AY p (Ay args env)) (backToKw p (keywordEach [] env))=true:=by
  unfold methodCallForm
  rw [yi hs]
  have:args.length <30:=Nat.blt_eq▸hl
  show (true&&true&&decide (args.length+0+0 <30))=true
  simp [this]
 unfold methodCall
 rw [few]
 unfold methodCallPos
 rw [hp]
 rw [if_pos (by simp)]
 rfl
end Mine
namespace Mine
set_option maxHeartbeats 0
open PySem PySem.W PyProof.Rows PySem.Calls
noncomputable def ahs (K:Frag) (C:Addr):Hl:=match K.lookup C with
 | some o=>match o.data with
  | .cls cd=>cd
  | _=>default
 | none=>default
noncomputable def al5 (K:Frag) (C:Addr) (i:Nat):Option Ae:=(K.lookup C).bind λo=>(o.slots.toList[i]?).join
noncomputable abbrev wb:List Ae:=[.ref 38,.type "Exception",.type "BaseException",.type "object"]
noncomputable abbrev adz (cd:Hl) (k:Nat->Option Ae) (C:Addr):Obj:=excClassObj cd.name cd.qualname C cd.ns cd.bases wb true cd.slotNames cd.subclasses false cd.collection none (k 0) (k 1) (k 2) (k 3) (k 5) "Exception.__new__"
noncomputable def dk:List Addr:=[51,75,87,99,111,123,135,147,159,171]
noncomputable def asp (K:Frag) (C:Addr):Bool:=specialIn K (.ref C) "__call__"==some (some (.builtin "type.__call__"))&&(instIn K (.ref C) (.type "type")==some true&&(DH K (.ref C) "__init__"==some (some (.ref 35))&&(DH K (.ref C) "__setattr__"==some (some (.builtin "object.__setattr__"))&&DH K (.ref C) "why"==some none)))
theorem ad0 (P:Params):dk.all (asp (K0 P))=true:=by kernel_rfl
theorem aav (P:Params):dk.map (λC=>(K0 P).lookup C)=dk.map λC=>some (adz (ahs (K0 P) C) (al5 (K0 P) C) C):=by kernel_rfl
structure hU (K:Frag) (C:Addr):Prop where
 obj:K.lookup C=some (adz (ahs K C) (al5 K C) C)
 call:specialIn K (.ref C) "__call__"=some (some (.builtin "type.__call__"))
 typ:instIn K (.ref C) (.type "type")=some true
 init:DH K (.ref C) "__init__"=some (some (.ref 35))
 set:DH K (.ref C) "__setattr__"=some (some (.builtin "object.__setattr__"))
 why:DH K (.ref C) "why"=some none
theorem ad1 {P:Params} {C:Addr} (h:C∈dk):hU (K0 P) C:=by
 have e0:=(Al _ _).mp (List.all_eq_true.mp (ad0 P) C h)
 have e1:=(Al _ _).mp e0.2
 have e2:=(Al _ _).mp e1.2
 have e3:=(Al _ _).mp e2.2
 exact ⟨List.map_inj_left.mp (aav P) C h,eq_of_beq e0.1,eq_of_beq e1.1,eq_of_beq e2.1,eq_of_beq e3.1,eq_of_beq e3.2⟩
section
variable {w:World} {A:Around} {E:Ae->Ad->Prop} {K:Frag} {C:Addr} {h:Heap} {g:Array E2} {d:IT} {t:Nat} {os:Fx} {R:Result->Ad->Prop}
abbrev bX (C t:Addr):Obj:={ cls:=.ref C,data:=.fields #[.ref t,.none,.none,.none,.bool false,.none] }
theorem cu (X:K.In h) (x:hU K C) {v:Ae}:Dp (At pw w) h (Di (.ref C) v) ((Dw C::wb).contains v):=λA Q E s k q=>wpAny_isSubtype_exc (k _ _ (X _ _ x.obj)) q
theorem ad2 (X:K.In h) (x:hU K C):Dp (At pw w) h (Bind.madeBy (.ref C)) (some "Exception.__new__"):=λA Q E s k q=>wpAny_madeBy_exc (k _ _ (X _ _ x.obj)) q
noncomputable abbrev asq (cd:Hl) (C:Addr):Hl:=⟨cd.name,cd.bases,.ref C::wb,cd.ns,cd.qualname,true,cd.slotNames,cd.subclasses,false,cd.collection,false⟩
theorem qD (X:K.In h) (x:hU K C):Dp (At pw w) h (classData C) (asq (ahs K C) C):=(FU (part:=none) (X _ _ x.obj)).andThen .now
theorem aht (X:K.In h) (x:hU K C):Dp (At pw w) h (mroOf (.ref C)) (.ref C::wb):=(qD X x).andThen .now
theorem ahu {rest:List Ae} (X:K.In h) (x:hU K C) (hrest:rest.length≤Dn) (hq:R (.ok (.ret (.ref (h.objs.size+1)))) ⟨(h.push { cls:=.type "tuple",data:=.seq rest.toArray }).push (bX C h.objs.size),g,d,t,os⟩):
 Hf (At pw w) A (.call (.builtin "Exception.__new__") ⟨.ref C::rest,[]⟩) R ⟨h,g,d,t,os⟩:=by
 have F:=Fo
 have hends:=F.ends
 have hC:=X _ _ x.obj
 show[codeAny_call_builtin_code (Fa _ F.quiet) (wpAny_check_new_subU F (bmB:=wb) rfl .base hC ?_),PySem.codeAny_builtinAt F.entry]
 unfold BW.«BaseException.__new__»
 show[Ja]
 show PySem.wpAt _ _ _ (stack>>=_) _ _ _
 refine Ja (PySem.wpAt_stack λp below=>HA ?_)
 wp_walk
 show[HA]
 rw [F.owner]
 show[Ac (m:=isType (.ref C)) (Ac (CF hC (An ?_))),Ac (m:=Di (.ref C) (.type "Exception")) ((cu X x).here ?_),Ac (m:=Bind.madeHere "BaseException.__new__" (.ref C)) (wpAny_madeHere_exc F.canon hC ?_),Ac (Ac (m:=Di (.ref C) (.type "AttributeError")) ((cu X x).here ?_)),Ac (m:=Di (.ref C) (.type "NameError")) ((cu X x).here (An ?_)),Ac (G8 ?_ hrest)]
 show AF _ _ _ _ _ ⟨h.push { cls:=.type "tuple",data:=.seq rest.toArray },g,d,t,os⟩
 show[Ac (Ac (m:=alloc (bX C h.objs.size)) (IX ?_)),Ac (m:=classHasDel C) (Ac (CF (o:=adz (ahs K C) (al5 K C) C) (Aj _ (Aj _ hC)) (An (An (An ?_)))))]
 show R (.ok (.ret (.ref (h.push { cls:=.type "tuple",data:=.seq rest.toArray }).objs.size))) _
 rw [CY]
 exact hq
theorem ad3 {rest:List Ae} (X:K.In h) (x:hU K C) (hrest:rest.length≤Dn)
 (hq:bf (At pw w) (A.under (.builtin "type.__call__" ⟨.ref C::rest,[]⟩)) (.call (.ref 35) ⟨.ref (h.objs.size+1)::rest,[]⟩) (InitBack (h.objs.size+1) R) ⟨(h.push { cls:=.type "tuple",data:=.seq rest.toArray }).push (bX C h.objs.size),g,d,t,os⟩)
 (hf:typeIn K (.ref 35)=some (.type "function")):bf (At pw w) A (.call (.ref C) ⟨rest,[]⟩) R ⟨h,g,d,t,os⟩:=
 sJ (X _ _ x.obj) rfl (ad2 X x) (looks_specialIn X x.call) (looks_instIn X x.typ) (by have z:=cu (w:=w) X x (v:=.ref C);rw [HM,beq_self_eq_true,Bool.true_or] at z;exact z) (Gl X x.init) (λself=>bind_fn X self hf) (ahu X x hrest) (λb o e=>Aj _ (Aj _ e)) (by heap_get) rfl hq
end
end Mine
namespace Mine
set_option maxHeartbeats 0
open PySem PySem.W PyProof.Rows PySem.Calls
section
variable {w:World} {A:Around} {E:Ae->Ad->Prop} {K:Frag} {C e t:Addr} {h:Heap} {g:Array E2} {d:IT} {tk:Nat} {os:Fx} {R:Result->Ad->Prop}
theorem ad4 {t:Addr} {rv:Ae} (X:K.In h) (x:hU K C) (he:h.get? e=some (bX C t))
 (hq:∀ h',(∀ b o,b≠e->h.get? b=some o->h'.get? b=some o)->(∃ t',h'.get? e=some (bX C t'))->R (.ok (.ret .none)) ⟨h',g,d,tk,os⟩):
 Hf (At pw w) A (.call (.builtin "Exception.__init__") ⟨[.ref e,rv],[]⟩) R ⟨h,g,d,tk,os⟩:=by
 have F:=Fo
 have t0:Dp (At pw w) h (FJ (.ref e)) (.ref C):=(FU he).andThen .now
 have hstar:=F.noStar
 have hC:=X _ _ x.obj
 have hp:(builtinKind "Exception.__init__",splitId "Exception.__init__")=(some .slot,some ("Exception","__init__")):=by rw [F.initKind,F.initSplit]
 show[G9 F.init.plain F.initEntry]
 delta Dx
 dsimp only
 rw [hp]
 refine Ac (m:=HO (.ref e) (.type "Exception")) ((t0.andThen (f:=λt=>Di t (.type "Exception")) (cu X x)).here ?_)
 show AF _ _ (match Manifest.signature? "Exception.__init__" with | some sig=>Bind.checkArgs "Exception.__init__" sig ⟨[.ref e,rv],[]⟩ | none=>pure ()) _ _ _
 rw [F.initRow]
 show[Ac (m:=Bind.printed "*" true _ _) (Ac (m:=FJ (.ref e)) (t0.here (Ac (m:=typeNameWhole (.ref C)) (Ac (m:=classData C) ((qD X x).here (An (An (Ac (m:=Bind.printed "Exception" false _ _) (An (wpAny_onRaise ?_)))))))))),AA (check_star_args _ _ _ _ _ _) (Ac (G8 (items:=[rv]) ?_ (by rw [AQ];exact Bq rfl)))]
 show AF _ _ _ _ _ ⟨h.push { cls:=.type "tuple",data:=.seq [rv].toArray },g,d,tk,os⟩
 have he1:(h.push { cls:=.type "tuple",data:=.seq [rv].toArray }).get? e=some (bX C t):=Aj _ he
 refine Ac (Ac (Ez (x:=.ref t) he1 rfl rfl (Ac (G6 he1 rfl (Nat.zero_lt_succ _) (wpAny_letGo (An (hq _ (λb o hb e'=>?_) ⟨h.objs.size,?_⟩)))))))
 ·rw [Cu _ _ (Fw hb)]
  exact Aj _ e'
 ·rw [BX _ he1 rfl]
  rfl
theorem ahv {t:Addr} {sx:Str} {st:Tok} {Q:Unit->Ad->Prop} (X:K.In h) (x:hU K C) (he:h.get? e=some (bX C t))
 (hq:∀ h' tk',(∀ b o,b≠e->h.get? b=some o->h'.get? b=some o)->(∃ dd,h'.get? e=some { bX C t with dict:=some dd })->Q () ⟨h',g,d,tk',os⟩):
 AF (At pw w) A (Jf (.ref e) "why" (.str sx st)) Q E ⟨h,g,d,tk,os⟩:=by
 have SF:=PySem.F.store_object
 have I:InstAt h e (bX C t) C none:=⟨he,rfl,rfl,trivial⟩
 have t0:Dp (At pw w) h (FJ (.ref e)) (.ref C):=(FU he).andThen .now
 have t1:Dp (At pw w) h (HO (.ref e) (.type "object")) true:=t0.andThen (f:=λt=>Di t (.type "object")) (cu X x)
 show[set_plain X I x.set,G9 SF.slot.plain SF.entry (@check_slot (At pw w) _ _ ⟨h,g,d,tk+1,os⟩ "object.__setattr__" "object" "__setattr__" (.ref e) [.str "why" tk,.str sx st] [] _ SF.kind SF.split t1 (SF.args (.ref e) (.str "why" tk) (.str sx st)) ?_)]
 rw [osa_eq,refuse_eq]
 refine Ac (Ac (t0.here (Ac ((aht X x).here ?_))))
 rw [refuseLoop_ref,refuseLoop_ref,show refuseLoop (.ref e) "__setattr__" [.type "Exception",.type "BaseException",.type "object"]=pure () from by kernel_rfl]
 show[An (Ac (t0.here (Ac ((Gl X x.why).here (Ac (An ?_)))))),Ac (An (Ac (Ac (G2 he (Ac ((qD X x).at ?_)))))),Ac (m:=alloc { cls:=.type "dict",data:=.dict #[] }) (IX ?_)]
 dsimp only
 have he1:(h.push { cls:=.type "dict",data:=.dict #[] }).get? e=some (bX C t):=Aj _ he
 refine Ac (wpAny_update he1 (An (Ac (An ?_))))
 have ne:h.objs.size≠e:=Gg (AZ he)
 have D0:((h.push { cls:=.type "dict",data:=.dict #[] }).update e λo=>{ o with dict:=some h.objs.size }).get? h.objs.size=some (Ek [] 0):=by
  rw [Cu _ _ (Fw ne)];exact Ax _ rfl
 generalize hG:(h.push { cls:=.type "dict",data:=.dict #[] }).update e (λo=>{ o with dict:=some h.objs.size })=H at D0 ⊢
 show[Ac (acp (h:=h) (F:=[]) D0 .nil (VR.str sx st) (BQ _) λH' es' n' D' e2 hs hl=>Ac (FV D' (pastItsLine_dict hl) (An ?_))),hq _ _ (λb o hb e'=>?_) ⟨h.objs.size,?_⟩]
 ·rw [hs.2 b (λq=>by rw [q,aL] at e';cases e'),← hG,Cu _ _ (Fw hb)]
  exact Aj _ e'
 ·rw [hs.2 e ne.symm,← hG,BX _ he1 rfl]
end
end Mine
namespace Mine
set_option maxHeartbeats 0
open PySem PySem.W PyProof.Rows PySem.Calls
theorem fc (P:Params):(kA P).nsMap BP "Exception"=none∧(kA P).nsMap B2 "Exception"=some (.type "Exception"):=⟨by kernel_rfl,by kernel_rfl⟩
theorem uB (K:Frag):findCls K (.type "Exception") (.type "type") "__init__"=some (.val (.builtin "Exception.__init__")):=by kernel_rfl
theorem ad5 {w:World} {A:Around} {E:Ae->Ad->Prop} {K:Frag} {s:Ad} {pl:Sem Bool} {Q:Ae × List Ae->Ad->Prop} (X:K.In s.heap) (h:Q (.builtin "Exception.__init__",[]) { s with toks:=s.toks+1 }):
 AF (At pw w) A (DY (.type "Exception") "__init__" pl) Q E s:=by
 have hstub:Ga (.type "Exception")=pure none:=by unfold Ga;dsimp only;rw [show Manifest.isStub "Exception"=false by decide+kernel];rfl
 have ht:FJ (.type "Exception")=pure (.type "type"):=by kernel_rfl
 have L0:Dp (At pw w) s.heap (FJ (.type "Exception")) (.type "type"):=Et ht
 have hg:DH K (.type "type") "__getattribute__"=some (some (.builtin "type.__getattribute__")):=type_tga
 unfold DY IJ
 refine Ac (Ac (L0.here ((Gl X hg).here ?_)))
 dsimp only
 rw [if_pos canon_tga]
 refine Ac (BC (Q:=λv=>Q (v,[])) (E:=E) ?_ (λO O z=>An z) λO O z=>z)
 have LO:Dp (At pw w) s.heap (Ga (.type "Exception")) none:=Et hstub
 exact cls_open X LO L0 hg (looks_hook X (r:=none) (by rfl)) (by show subIn K _ _=_;rfl) (uB K) (An (by show AF _ _ (handedOut _) _ _ _;rw [handedOut_of rfl];exact An h))
section
variable {w:World} {A:Around} {C e:Addr} {R:Result->Ad->Prop}
theorem ahw {x:Str} {tx:Tok} {t:Addr} {s:Ad} (hroom:A.depth+8 <GX) (X:(K0 w.params).In s.heap) (hl:s.heap.NoLimit)
 (hg:s.heap.Ns HL ((kA w.params).nsMap BP)) (hb:s.heap.Ns B2 ((kA w.params).nsMap B2)) (y:hU (K0 w.params) C) (he:s.heap.get? e=some (bX C t))
 (eo:HL≠e) (eb:B2≠e) (ek:∀ b o,(K0 w.params).lookup b=some o->b≠e)
 (hq:∀ h' tk,(∀ b o,b≠e->s.heap.get? b=some o->h'.get? b=some o)->(∃ dd t',h'.get? e=some { bX C t' with dict:=some dd })->R (.ok (.ret .none)) { s with heap:=h',toks:=tk }):
 Hf (At pw w) A (.call (.ref 35) ⟨[.ref e,.str x tx],[]⟩) R s:=by
 have hf:∀ P,((K0 P).lookup 35).map Obj.data=some (.func az):=by intro P;kernel_rfl
 show[an (Option.map_eq_some_iff.mp (hf w.params)) λof hlk hdata=>?_,an (kj.go w.params [.ref e,.str x tx] rfl) λdrs hrun hdn=>?_]
 obtain rfl:drs=[]:=by cases drs with | nil=>rfl | cons _ _=>cases hdn
 have hcd:∀ P,codeIn (K0 P) az.code az.qualname=true:=by intro P;kernel_rfl
 have hk:xH az.scope [Ab "self",Ab "why"]=true:=by kernel_rfl
 refine codeAny_call_function (body:=tR (zI [2,0])) (by lia) (X _ _ hlk) hdata (by kernel_rfl) (by kernel_rfl) (by kernel_rfl) (codeRec_of X (hcd _)) (ow X _ hrun ?_)
 have hclo:az.closure=[]:=by kernel_rfl
 have hkd:az.scope.kind=.function:=by kernel_rfl
 have hn1:az.scope.names.lookup (Ab "self")=some NameKind.local:=by kernel_rfl
 have hn2:az.scope.names.lookup (Ab "why")=some NameKind.local:=by kernel_rfl
 have hnE:az.scope.names.lookup (Ab "Exception")=some NameKind.globalImplicit:=by kernel_rfl
 have hG:az.globals=BP:=by kernel_rfl
 have hBl:az.builtins=B2:=by kernel_rfl
 rw [hclo]
 refine Fd hkd (λp hp=>?_) λenv he' s₁ x₁=>⟨hl.keeps x₁.toInCall.keep,codeAny_func ?_⟩
 ·have hp:p∈[((Ab "self":Str),Dw e),(Ab "why",Dj x tx)]:=hp
  rcases List.mem_cons.mp hp with rfl | hp
  ·exact .inl hn1
  ·rw [List.mem_singleton.mp hp];exact .inl hn2
 have he':env=Dr az s.heap.objs.size 35:=he'
 have eK:∀ y,env.kindOf y=az.scope.names.lookup y:=λy=>by rw [he'];rfl
 have eS:env.scope=az.scope:=by rw [he'];rfl
 have eG:env.globals=BP:=by rw [he'];exact hG
 have eB:env.builtins=B2:=by rw [he'];exact hBl
 have eI:Ey env=false:=by rw [he'];rfl
 clear he'
 have kp:=x₁.toInCall.keep
 refine e20 x₁.toInCall.same λh₁ t₁ q1'=>?_
 subst q1'
 have ns:=x₁.toInCall.ns
 have hfresh:=x₁.toInCall.fresh
 dsimp only at kp ns hfresh
 have m1:bindL env.kindOf ([Ab "self",Ab "why"].zip [Dw e,Dj x tx]++[]) (λO=>none) "self"=some (.ref e):=by
  show (if env.kindOf (Ab "why")=some NameKind.local then _ else _:Str->Option Ae) "self"=_
  rewrite [eK,hn2,if_pos rfl,if_neg (by decide)]
  show (if env.kindOf (Ab "self")=some NameKind.local then _ else _:Str->Option Ae) "self"=_
  rw [eK,hn1,if_pos rfl,if_pos rfl]
 have m2:bindL env.kindOf ([Ab "self",Ab "why"].zip [Dw e,Dj x tx]++[]) (λO=>none) "why"=some (.str x tx):=by
  show (if env.kindOf (Ab "why")=some NameKind.local then _ else _:Str->Option Ae) "why"=_
  rw [eK,hn2,if_pos rfl,if_pos rfl]
 generalize bindL env.kindOf ([Ab "self",Ab "why"].zip [Dw e,Dj x tx]++[]) (λO=>none)=mm at ns m1 m2
 have hne:env.locals≠e:=Gg (B1 (AZ he) hfresh)
 have nm:∀ {A':Around} {h₂:Heap} {t₂:Nat} {y:Str} {v:Ae} {pos:Pos} {Q:Ae->Ad->Prop} {E:Ae->Ad->Prop},h₂.Ns env.locals mm->env.kindOf y=some .local->mm y=some v->(y==("__debug__":Str))=false->Q v { s with heap:=h₂,toks:=t₂ }->AF (At pw w) A' (eval (.Name y pos) env) Q E { s with heap:=h₂,toks:=t₂ }:=
  λhn hy hm hd q=>HP (G1 (by rw [eS];exact hkd) hy hn hm q) hd
 show[Ep (wpAny_Expr_any ?_ eI rfl),MethodCall_ ?_ (uA rfl rfl rfl rfl),BR (by rw [eS];exact hkd) ((eK _).trans hnE) ?_ rfl,HU (env:=env) (mg:=(kA w.params).nsMap BP) (by rw [eG];exact hg.keeps kp) (fc _).1 (by rw [eB];exact hb.keeps kp) (fc _).2,ad5 (X.keeps kp),callWith_of (P:=λO=>True) rfl (λh O=>⟨.machine,.inr (.inl rfl),Et rfl⟩) (evalArgs_plain (spliced_cons (nm ns ((eK _).trans hn1) m1 rfl (spliced_cons (nm ns ((eK _).trans hn2) m2 rfl (EA ⟨trivial,?_⟩)))))),wpAny_call (ad4 (X.keeps kp) y (kp _ _ he) λh₂ k₂ he₂=>?_),aE he₂ λt2 he₂=>?_]
 have ns2:h₂.Ns env.locals mm:=let ⟨o,es,ep,a,r⟩:=ns;⟨o,es,ep,k₂ _ _ hne a,r⟩
 have X2:(K0 w.params).In h₂:=λb o q=>k₂ b o (ek b o q) (kp _ _ (X _ _ q))
 show(Ep (wpAny_Assign_stores (nm ns2 ((eK _).trans hn2) m2 rfl ?_) rfl rfl),Ac (m:=CW [.str x tx] (eval _ env)) (BF (nm ns2 ((eK _).trans hn1) m1 rfl (Ac (FG (Ac (BF (ahv X2 y he₂ λh₃ tk₃ k₃ he₃=>?_))))))),aE he₃ λdd he₃=>?_,HD (Df (hq h₃ tk₃ (λb o hb q=>k₃ b o hb (k₂ b o hb (kp b o q))) ⟨dd,t2,he₃⟩)))
end
end Mine
namespace Mine
set_option maxHeartbeats 0
open PySem PySem.W PyProof.Rows PySem.Calls
theorem yj {w:World} {A:Around} {E:Ae->Ad->Prop} {env:Env} {C e t:Addr} {dd:Option Addr} {s:Ad} {Q:Flow->Ad->Prop} (X:(K0 w.params).In s.heap) (y:hU (K0 w.params) C) (he:s.heap.get? e=some { bX C t with dict:=dd }) (hh:A.handled=none) (hE:E (.ref e) s):
 AF (At pw w) A (Hn env (some (pure (.ref e))) none) Q E s:=by
 obtain ⟨h,g,d,tk,os⟩:=s
 dsimp only at X he
 have hC:=X _ _ y.obj
 have t0:Dp (At pw w) h (FJ (.ref e)) (.ref C):=(FU he).andThen .now
 have t1:Dp (At pw w) h (Di (.ref C) (.type "BaseException")) true:=cu X y
 unfold Hn
 refine Ac (An ?_)
 repeat (first | with_reducible refine wpAny_loadPart_at he ?_ | lk | wp_step)
 show[wpAny_handled]
 rw [hh]
 exact wpAny_throw hE
section
variable {c:Cx} {n:Nat} {env:Env} {m:Loc} {L:ah} {N:a8} {R:ad} {K:a8} {X:ac}
theorem aaw (P:Params):dk.all (λC=>cX P (.ref C))=true:=by kernel_rfl
theorem ad6 {C:Addr} (h:dk.contains C=true) (P:Params):hU (K0 P) C:=ad1 (List.contains_iff_mem.mp h)
theorem f35 (P:Params):typeIn (K0 P) (.ref 35)=some (.type "function"):=by kernel_rfl
theorem ahx {x:Str} {np cp pos:Pos} {args:List Expr} {C:Addr} (hk:env.kindOf x=some .globalImplicit) (hv:∀ P,gl P x=some (.ref C)) (hC:dk.contains C=true)
 (h:cI c n env m (AY cp (Ay args env)) L (λvs L1=>∃ msg,vs=[.str msg]∧X C L1) X) (hn:2≤n) (hp:(AY cp (Ay args env)).any (·.1)=false) (hd:(x==("__debug__":Str))=false):
 fD c env n m (exec (.Raise (some (.Call (.Name x np) args [] cp)) none pos) env) L N R K X:=by
 intro A s hb hf S V
 rw [arm_exec_Raise]
 show[bM]
 have hcal:∀ P,cX P (.ref C)=true:=λP=>List.all_eq_true.mp (aaw P) C (List.contains_iff_mem.mp hC)
 have tail:∀ (t:Sem Ae),av (At pw c.w) A t (λv s₁=>∃ e t dd,v=.ref e∧(K0 c.w.params).In s₁.heap∧s₁.heap.get? e=some { bX C t with dict:=dd }∧pR c env A L s X (.ref e) s₁) (pR c env A L s X) s->av (At pw c.w) A (Hn env (some t) none) (tN c env L s N R K) (pR c env A L s X) s:=by
  intro t ht
  have e:Hn env (some t) none=(t>>=λv=>Hn env (some (pure v)) none):=rfl
  rw [e]
  show[aw ht λv s₁ g=>?_,jC g]
  clear g
  intro e t dd q1' X1 he hE
  subst q1'
  exact .of (yj X1 (ad6 hC _) he hb.handled hE)
 show[tail _,aw (P:=λv s₁=>∃ e t dd,v=.ref e∧(K0 c.w.params).In s₁.heap∧s₁.heap.get? e=some { bX C t with dict:=dd }∧pR c env A L s X (.ref e) s₁) ?_ λv s₁ g=>bM (aq g),ul hk hv hcal h hb hf.ok S V (λe s' z=>z.leave hf S V) (λvs L1 s1 rvs q S1 x1 e1=>?_) hp hd,an q]
 clear q
 intro msg q1' hx
 subst q1'
 refine an x1.one λr q1' hr=>?_
 subst q1'
 refine aE hr.inv λtx q1'=>?_
 subst q1'
 obtain ⟨hh,g,d,tk,os⟩:=s1
 have X1:(K0 c.w.params).In hh:=S1.K
 have y:=ad6 hC c.w.params
 have V1:=V.evo S e1
 have hf1:mP c A env hh:=hf.evo S V V1 e1.toS
 refine kB (ad3 X1 y (show 1≤Dn by decide) (.of ?_) (f35 _))
 have k:∀ b o,hh.get? b=some o->((hh.push { cls:=.type "tuple",data:=.seq [Dj msg tx].toArray }).push (bX C hh.objs.size)).get? b=some o:=λb o e=>Aj _ (Aj _ e)
 have hx1:((hh.push { cls:=.type "tuple",data:=.seq [Dj msg tx].toArray }).push (bX C hh.objs.size)).get? (hh.objs.size+1)=some (bX C hh.objs.size):=by heap_get
 have old:∀ b o,hh.get? b=some o->b≠hh.objs.size+1:=λb o e q=>Nat.not_lt.mpr (Br _) (q▸AZ e:hh.objs.size+1 <hh.objs.size)
 have ns1:=S1.ns
 have nsB:=S1.nsB
 have hd':=hb.depth
 refine ahw (by show A.depth+1+8 <_;lia) (X1.keeps k) (S1.noLimit.keeps k) (ns1.keeps k) (nsB.keeps k) y hx1 ?_ ?_ (λb o q=>old b o (X1 _ _ q)) λh' tk' k' he=>?_
 ·refine e31 ns1 λo O O a O=>?_;exact old _ o a
 ·refine e31 nsB λo O O a O=>?_;exact old _ o a
 ·refine e20 he λdd t' he=>?_
  have kk:∀ b o,hh.get? b=some o->h'.get? b=some o:=λb o e=>k' b o (old b o e) (k b o e)
  have S':St c L1 { (⟨hh,g,d,tk,os⟩:Ad) with heap:=h',toks:=tk' }:=S1.all kk
  have ev:bD (foot L1) (foot L1) ⟨hh,g,d,tk,os⟩ { (⟨hh,g,d,tk,os⟩:Ad) with heap:=h',toks:=tk' }:=bD.all kk
  refine ⟨rfl,hh.objs.size+1,t',some dd,rfl,X1.keeps kk,he,?_⟩
  have z:pR c env A L1 ⟨hh,g,d,tk,os⟩ X (.ref (hh.objs.size+1)) { (⟨hh,g,d,tk,os⟩:Ad) with heap:=h',toks:=tk' }:=
   sM (hf1.evo S1 V1 (V1.evo S1 ev) ev.toS) S1 hx S' (by show hh.get? _=none;exact Heap.get?_none_of_le (Br _)) (.raw _ _ he rfl rfl rfl) ev.toS.toX
  exact z.after e1.toS
end
end Mine
namespace Mine
open PySem PySem.W PyProof.Rows PySem.Calls
inductive cP (c:Cx) (L:ah):V->Str->Ae->Prop
 | inst {a C d f:Addr} {fs:List (Str × V)} {x:Str} (hm:(a,aj.inst C d fs)∈c.R++L) (hk:qu.contains C=true) (hf:(alg C).lookup x=some f) (hn:fs.lookup x=none):cP c L (.obj a) x (.ref f)
 | popI {a:Addr} {fs:List (Int × V)} (hm:(a,aj.dI fs)∈c.R++L):cP c L (.obj a) "pop" (.builtin "dict.pop")
 | popS {a:Addr} {fs:List (Str × V)} (hm:(a,aj.dS fs)∈c.R++L):cP c L (.obj a) "pop" (.builtin "dict.pop")
 | getS {a:Addr} {fs:List (Str × V)} (hm:(a,aj.dS fs)∈c.R++L):cP c L (.obj a) "get" (.builtin "dict.get")
 | joinS {x:Str}:cP c L (.str x) "join" (.builtin "str.join")
 | splitS {x:Str}:cP c L (.str x) "split" (.builtin "str.split")
 | append {a:Addr} {l:List V} (hm:(a,aj.lst l)∈c.R++L):cP c L (.obj a) "append" (.builtin "list.append")
 | lExt {a:Addr} {l:List V} (hm:(a,aj.lst l)∈c.R++L):cP c L (.obj a) "extend" (.builtin "list.extend")
 | bExt {a:Addr} {l:List UInt8} (hm:(a,aj.barr l)∈c.R++L):cP c L (.obj a) "extend" (.builtin "bytearray.extend")
 | joinB {b:List UInt8}:cP c L (.bytes b) "join" (.builtin "bytes.join")
 | itemsS {a:Addr} {fs:List (Str × V)} (hm:(a,aj.dS fs)∈c.R++L):cP c L (.obj a) "items" (.builtin "dict.items")
 | itemsI {a:Addr} {fs:List (Int × V)} (hm:(a,aj.dI fs)∈c.R++L):cP c L (.obj a) "items" (.builtin "dict.items")
structure yk (c:Cx) (L:ah) (v:V) (x:Str) (Q:ad):Prop where
 go:∃ a C d fs w,v=.obj a∧(a,aj.inst C d fs)∈c.R++L∧(qu.contains C&&(z8 C).contains x)=true∧fs.lookup x=some w∧Q w L
theorem aI {c:Cx} {L:ah} {a C d:Addr} {fs:List (Str × V)} {x:Str} {w:V} {Q:ad} (hm:(a,aj.inst C d fs)∈c.R++L) (hk:(qu.contains C&&(z8 C).contains x)=true) (hf:fs.lookup x=some w) (h:Q w L):yk c L (.obj a) x Q:=⟨a,C,d,fs,w,rfl,hm,hk,hf,h⟩
structure yl (c:Cx) (L:ah) (v:V) (x:Str) (K:Ae->Prop):Prop where
 go:∃ f,cP c L v x f∧K f
theorem apx {c:Cx} {n:Nat} {env:Env} {m:Loc} {L:ah} {X:ac} {Q:ad} {u:V} {x:Str} {f:Ae} {args:List Expr} {pos:Pos} (hm:cP c L u x f) (h:cI c n env m (AY pos (Ay args env)) L (λvs L1=>ae c n f (u::vs) L1 Q X) X) (hp:(AY pos (Ay args env)).any (·.1)=false):
 xh c n env m x args pos u L Q X:=by
 cases hm with
 | inst hm hk hf hn=>exact ali hm hk hf hn h hp
 | popI hm=>exact ao8 hm h hp
 | popS hm=>exact ao9 hm h hp
 | getS hm=>exact apa hm h hp
 | joinS=>exact alv h hp
 | splitS=>exact ahf h hp
 | append hm=>exact ahg hm h hp
 | lExt hm=>exact adt hm h hp
 | bExt hm=>exact aal hm h hp
 | joinB=>exact al0 h hp
 | itemsS hm=>exact ahm hm h hp
 | itemsI hm=>exact ahn hm h hp
noncomputable def onS {α:Type} (o:Option α) (f:α->Prop):Prop:=@H3 α (λO=>Prop) False f o
noncomputable def onT (b:Bool) (p:Prop):Prop:=@Ih (λO=>Prop) False p b
noncomputable def onB (v:V) (f:Bool->Prop):Prop:=match v with
 | .bool t=>f t
 | _=>False
theorem jf {α:Type} {o:Option α} {f:α->Prop} (h:onS o f):∃ a,o=some a∧f a:=by cases o with | none=>exact h.elim | some a=>exact ⟨a,rfl,h⟩
theorem bh {b:Bool} {p:Prop} (h:onT b p):b=true∧p:=by cases b with | false=>exact h.elim | true=>exact ⟨rfl,h⟩
theorem qE {v:V} {f:Bool->Prop} (h:onB v f):∃ t,v=.bool t∧f t:=by
 match v,h with
 | .bool a,h=>exact ⟨a,rfl,h⟩
section
variable {c:Cx} {n:Nat} {env:Env} {m:Loc} {L:ah} {X:ac}
theorem bv.post {t:Sem Ae} {Q Q':ad} (h:bv c n env m t L Q X) (hq:∀ v L',Q v L'->Q' v L'):bv c n env m t L Q' X:=h.mono hq λO O x=>x
theorem lF.post {t:Sem Bool} {Q Q':Bool->ah->Prop} (h:lF c n env m t L Q X) (hq:∀ v L',Q v L'->Q' v L'):lF c n env m t L Q' X:=
 λA s a b d e=>ai (h A s a b d e) (λO O z=>z.mono (hq _)) λO O z=>z
theorem cI.post {t:List (Bool × Sem Ae)} {Q Q':List V->ah->Prop} (h:cI c n env m t L Q X) (hq:∀ v L',Q v L'->Q' v L'):cI c n env m t L Q' X:=
 λA s a b d e=>ai (h A s a b d e) (λO O ⟨v,L',x,f,g,h⟩=>⟨v,L',hq _ _ x,f,g,h⟩) λO O z=>z
theorem vX.post {t:List (Sem Ae × Sem Ae)} {Q Q':List (Str × V)->ah->Prop} (h:vX c n env m t L Q X) (hq:∀ v L',Q v L'->Q' v L'):vX c n env m t L Q' X:=
 λA s a b d e=>ai (h A s a b d e) (λO O ⟨v,L',x,f,g,h,i⟩=>⟨v,L',hq _ _ x,f,g,h,i⟩) λO O z=>z
theorem cF.post {rel:Rel} {t i:Expr} {K K':List V->ah->Prop} (h:cF rel c n env m t i L K X) (hq:∀ v L',K v L'->K' v L'):cF rel c n env m t i L K' X:=
 λA s P E hb hf S V k kx=>h A s P E hb hf S V (λl L1 s1 s2 it a b d e=>k l L1 s1 s2 it (hq _ _ a) b d e) kx
theorem ja.post {e:Option Expr} {Q Q':Option Int->ah->Prop} (h:ja c n env m e L Q X) (hq:∀ v L',Q v L'->Q' v L'):ja c n env m e L Q' X:=
 ⟨λA s a b d e=>ai (h.go A s a b d e) (λO O ⟨v,L',x,f,g,h⟩=>⟨v,L',hq _ _ x,f,g,h⟩) λO O z=>z⟩
theorem zW.post {t:Ae->Sem Unit} {v:V} {N N':a8} (h:zW c env n m t v L N X) (hq:∀ m' L',N m' L'->N' m' L'):zW c env n m t v L N' X:=
 λA s r a b d e f=>ai (h A s r a b d e f) (λO O z=>z.mono hq) λO O z=>z
end
inductive Sv
 | v (u:V)
 | f (g:Ae) (u:Option V)
 | l (l:List V)
 | i (o:Option Int)
 | ns (l:List Str)
structure Gx where
 c:Cx
 n:Nat
 env:Env
 X:ac
 N:a8
 R:ad
 K:a8
set_option genSizeOf false in
set_option genInjectivity false in
inductive aW
 | done
 | cont
 | ret
 | bad
 | push (u:V) (k:aW)
 | name (x:Str) (k:aW)
 | un (op:UnaryOp) (k:aW)
 | bin (op:Operator) (k:aW)
 | cmp (op:Ex) (k:aW)
 | attr (x:Str) (k:aW)
 | meth (x:Str) (k:aW)
 | fn (g:Ae) (k:aW)
 | call (j:Nat) (k:aW)
 | isi (k:aW)
 | items (k:aW)
 | idx (k:aW)
 | prt (k:aW)
 | nop (k:aW)
 | slc (k:aW)
 | tup (j:Nat) (k:aW)
 | list (j:Nat) (k:aW)
 | own (j:Nat) (k:aW)
 | list0 (k:aW)
 | dict0 (k:aW)
 | dA (k:aW)
 | dB (xs:List Str) (k:aW)
 | andc (a k:aW)
 | orc (a k:aW)
 | chain (op:Ex) (a k:aW)
 | br (a b:aW)
 | not (k:aW)
 | tb (k:aW)
 | chk (f:Env->Bool) (k:aW)
 | sto (x:Str) (k:aW)
 | stA (x:Str) (k:aW)
 | stI (k:aW)
 | unp (j:Nat) (k:aW)
 | popc (k:aW)
 | sw (t v:Expr) (a b:aW)
 | swB (k:aW)
 | rs0 (k:aW)
 | rs (C:Addr) (j:Nat)
 | it (k:aW)
 | rng (j:Nat) (k:aW)
 | enm (j:Nat) (k:aW)
 | forL (b k:aW)
 | lc (tg:Expr) (sc:Scope) (b k:aW)
 | brT (b:aW)
 | lock (b k:aW)
 | whl (t k:aW)
 | tr (C:Addr) (b:Stmt) (e k:aW)
 | asl (v t:Expr) (line:Nat) (k:aW)
noncomputable def dm (s:List Sv) (f:V->List Sv->Prop):Prop:=match s with
 | .v u::s=>f u s
 | _=>False
noncomputable def aax (s:List Sv) (f:Bool->List Sv->Prop):Prop:=match s with
 | .v (.bool u)::s=>f u s
 | _=>False
noncomputable def apz (s:List Sv) (f:Addr->List Sv->Prop):Prop:=match s with
 | .v (.obj u)::s=>f u s
 | _=>False
noncomputable def ap0 (s:List Sv) (f:Ae->Option V->List Sv->Prop):Prop:=match s with
 | .f g u::s=>f g u s
 | _=>False
noncomputable def ap1 (s:List Sv) (f:List V->List Sv->Prop):Prop:=match s with
 | .l u::s=>f u s
 | _=>False
noncomputable def popI (s:List Sv) (f:Option Int->List Sv->Prop):Prop:=match s with
 | .i u::s=>f u s
 | _=>False
noncomputable def asr (s:List Sv) (f:List Str->List Sv->Prop):Prop:=match s with
 | .ns u::s=>f u s
 | _=>False
noncomputable def nX (n:Nat):List Sv->List V->(List V->List Sv->Prop)->Prop:=
 @Nat.rec (λO=>List Sv->List V->(List V->List Sv->Prop)->Prop) (λs a f=>f a s) (λO ih s a f=>dm s λu s=>ih s (u::a) f) n
noncomputable def ap2 (v:V) (f:List V->Prop):Prop:=match v with
 | .tup vs=>f vs
 | .list vs=>f vs
 | _=>False
noncomputable def aps (u:Option V) (vs:List V):List V:=@H3 V (λO=>List V) vs (λu=>u::vs) u
noncomputable def ajq (vs:List V) (s:List Sv):List Sv:=@Gb V (λO=>List Sv) s (λv O r=>.v v::r) vs
structure COp (op:Ae->Ae->Sem Ae) (u v:V) where
 f:Cx->Nat->ac->ah->ad->Prop
 ok:∀ {c:Cx} {n:Nat} {X:ac} {L:ah} {K:ad},f c n X L K->bj c n op u v L K X
noncomputable def op0 (op:Ae->Ae->Sem Ae) (u v:V):COp op u v:=⟨λc n X L K=>bj c n op u v L K X,id⟩
noncomputable def ap4 (op:Operator) (u v:V):COp (CC op) u v:=
 match op,u,v with
 | .Add,.int a,.int b=>⟨λO O O L K=>K (.int (a+b)) L,λh=>aos h⟩
 | .Sub,.int a,.int b=>⟨λO O O L K=>K (.int (a - b)) L,λh=>aot h⟩
 | _,_,_=>op0 ..
noncomputable def wc (op:Ex) (u v:V):COp (AU op) u v:=
 match op,v with
 | .Is,.none=>⟨λO O O L K=>K (.bool u.isNone) L,λh=>ao3 h⟩
 | .IsNot,.none=>⟨λO O O L K=>K (.bool (!u.isNone)) L,λh=>ac5 h⟩
 | op,.int b=>match op,u with
  | .Lt,.int a=>⟨λO O O L K=>K (.bool (decide (a <b))) L,λh=>aoy h⟩
  | .LtE,.int a=>⟨λO O O L K=>K (.bool (decide (a≤b))) L,λh=>aoz h⟩
  | .Gt,.int a=>⟨λO O O L K=>K (.bool (decide (b <a))) L,λh=>ao0 h⟩
  | .GtE,.int a=>⟨λO O O L K=>K (.bool (decide (b≤a))) L,λh=>ao1 h⟩
  | .Eq,.int a=>⟨λO O O L K=>K (.bool (decide (a=b))) L,λh=>aow h⟩
  | .NotEq,.int a=>⟨λO O O L K=>K (.bool (decide (a≠b))) L,λh=>aox h⟩
  | _,_=>op0 ..
 | op,.str b=>match op,u with
  | .Eq,.str a=>⟨λO O O L K=>K (.bool (decide (a=b))) L,λh=>alj h⟩
  | .NotEq,.str a=>⟨λO O O L K=>K (.bool (!decide (a=b))) L,λh=>alk h⟩
  | _,_=>op0 ..
 | .Eq,.bytes b=>match u with
  | .bytes a=>⟨λO O O L K=>K (.bool (decide (a=b))) L,λh=>alm h⟩
  | _=>op0 ..
 | _,_=>op0 ..
noncomputable def ad7 (env:Env) (x:Str) (m:Loc) (L:ah) (K:ad):Prop:=
 match env.kindOf x with
 | some .local=>onS (m.lookup x) λv=>K v L
 | some .cell=>onS (m.lookup x) λv=>K v L
 | some .free=>onS (m.lookup x) λv=>K v L
 | some .globalImplicit=>onS (((oU x.cps.size).lookup x).bind sv) λv=>K v L
 | _=>False
theorem ad8 {c:Cx} {n:Nat} {env:Env} {m:Loc} {L:ah} {X:ac} {Q:ad} {x:Str} {p:Pos} (hd:(x=="__debug__")=false) (hc:(x=="__classdict__")=false) (h:ad7 env x m L Q):bv c n env m (eval (.Name x p) env) L Q X:=by
 delta ad7 at h
 match e:env.kindOf x,h with
 | some .local,h=>refine an (jf h) λv e1 h=>?_;exact akz e e1 h hd
 | some .cell,h=>refine an (jf h) λv e1 h=>?_;exact ak0 e e1 h hd
 | some .free,h=>refine an (jf h) λv e1 h=>?_;exact ak1 e e1 h hd hc
 | some .globalImplicit,h=>
  show(an (jf h) λv e1 h=>?_,an (Option.bind_eq_some_iff.mp e1) λf e2 e3=>?_,ag7 e e2 e3 h hd)
noncomputable def ajr (env:Env) (xs:List Str):List V->Loc->(Loc->Prop)->Prop:=
 @Gb Str (λO=>List V->Loc->(Loc->Prop)->Prop) (λvs m K=>match vs with
  | []=>K m
  | _::_=>False) (λx O ih vs m K=>match vs with
  | v::vs=>onT (gx env x) (ih vs ((x,v)::m) K)
  | []=>False) xs
structure CSu (b:Stmt) where
 f:Env->Loc->ah->a8->ad->Prop
 ok:∀ {c:Cx} {env:Env} {m:Loc} {L:ah} {N K:a8} {R:ad},f env m L N R->pf c env m b L N R K
noncomputable def ym (b:Stmt):CSu b:=
 match b with
 | .Return (some (.Constant (.bool t) _ _)) _=>⟨λO O L O R=>R (.bool t) L,λh=>aar h⟩
 | .Assign [.Name x _] (.Constant (.bool t) _ _) _=>⟨λenv m L N O=>onT (gx env x) (N ((x,.bool t)::m) L),λh=>aas (bh h).1 (bh h).2⟩
 | _=>⟨λO O O O O=>False,DW⟩
noncomputable def qF (G:Gx) (sc:Scope) (C D:Addr) (o:List V) (L:ah) (r:Option V):Gx:=
 ⟨oV G.c C D o,G.n,nM sc G.env C,λO O=>False,λO O=>r=none,λv L'=>L'=L∧r=some v,λO L'=>L'=L⟩
structure Dt where
 nx:aW
 al:aW
 eA:Expr
 eB:Expr
 sc:Scope
 st:Stmt
 ln:Nat
noncomputable def dfE:Expr:=.Constant .none 0 default
noncomputable def dfS:Scope:=default
noncomputable def dfT:Stmt:=.Pass default
noncomputable def dt (n a:aW):Dt:=⟨n,a,dfE,dfE,dfS,dfT,0⟩
noncomputable def dat (q:aW):Dt:=
 aW.casesOn (motive:=λO=>Dt) q
  (done:=dt .bad .bad)
  (cont:=dt .bad .bad)
  (ret:=dt .bad .bad)
  (bad:=dt .bad .bad)
  (push:=λO k=>dt k .bad)
  (name:=λO k=>dt k .bad)
  (un:=λO k=>dt k .bad)
  (bin:=λO k=>dt k .bad)
  (cmp:=λO k=>dt k .bad)
  (attr:=λO k=>dt k .bad)
  (meth:=λO k=>dt k .bad)
  (fn:=λO k=>dt k .bad)
  (call:=λO k=>dt k .bad)
  (isi:=λk=>dt k .bad)
  (items:=λk=>dt k .bad)
  (idx:=λk=>dt k .bad)
  (prt:=λk=>dt k .bad)
  (nop:=λk=>dt k .bad)
  (slc:=λk=>dt k .bad)
  (tup:=λO k=>dt k .bad)
  (list:=λO k=>dt k .bad)
  (own:=λO k=>dt k .bad)
  (list0:=λk=>dt k .bad)
  (dict0:=λk=>dt k .bad)
  (dA:=λk=>dt k .bad)
  (dB:=λO k=>dt k .bad)
  (andc:=λa k=>dt k a)
  (orc:=λa k=>dt k a)
  (chain:=λO a k=>dt k a)
  (br:=λa b=>dt b a)
  (not:=λk=>dt k .bad)
  (tb:=λk=>dt k .bad)
  (chk:=λO k=>dt k .bad)
  (sto:=λO k=>dt k .bad)
  (stA:=λO k=>dt k .bad)
  (stI:=λk=>dt k .bad)
  (unp:=λO k=>dt k .bad)
  (popc:=λk=>dt k .bad)
  (sw:=λt v a b=>⟨b,a,t,v,dfS,dfT,0⟩)
  (swB:=λk=>dt k .bad)
  (rs0:=λk=>dt k .bad)
  (rs:=λO O=>dt .bad .bad)
  (it:=λk=>dt k .bad)
  (rng:=λO k=>dt k .bad)
  (enm:=λO k=>dt k .bad)
  (forL:=λb k=>dt k b)
  (lc:=λtg sc b k=>⟨k,b,tg,dfE,sc,dfT,0⟩)
  (brT:=λb=>dt b .bad)
  (lock:=λb k=>dt k b)
  (whl:=λt k=>dt k t)
  (tr:=λO b e k=>⟨k,e,dfE,dfE,dfS,b,0⟩)
  (asl:=λv t line k=>⟨k,.bad,v,t,dfS,dfT,line⟩)
noncomputable def nx (q:aW):aW:=(dat q).nx
noncomputable def al (q:aW):aW:=(dat q).al
noncomputable def eA (q:aW):Expr:=(dat q).eA
noncomputable def eB (q:aW):Expr:=(dat q).eB
noncomputable def scO (q:aW):Scope:=(dat q).sc
noncomputable def stO (q:aW):Stmt:=(dat q).st
noncomputable def lnO (q:aW):Nat:=(dat q).ln
noncomputable abbrev Sm:Type:=Gx->List Sv->Loc->ah->Prop
noncomputable def step (n a:aW->Sm) (q:aW):Sm:=
 aW.casesOn (motive:=λO=>Sm) q
  (done:=λG O m L=>G.N m L)
  (cont:=λG O m L=>G.K m L)
  (ret:=λG s O L=>dm s λu O=>G.R u L)
  (bad:=λO O O O=>False)
  (push:=λu O G s m L=>n (nx q) G (.v u::s) m L)
  (name:=λx O G s m L=>ad7 G.env x m L λv L=>n (nx q) G (.v v::s) m L)
  (un:=λop O G s m L=>dm s λu s=>OkU G.c G.n (unaryOp op) u L (λv L=>n (nx q) G (.v v::s) m L) G.X)
  (bin:=λop O G s m L=>dm s λv s=>dm s λu s=>(ap4 op u v).f G.c G.n G.X L λv L=>n (nx q) G (.v v::s) m L)
  (cmp:=λop O G s m L=>dm s λv s=>dm s λu s=>(wc op u v).f G.c G.n G.X L λv L=>n (nx q) G (.v v::s) m L)
  (attr:=λx O G s m L=>dm s λu s=>yk G.c L u x λv L=>n (nx q) G (.v v::s) m L)
  (meth:=λx O G s m L=>dm s λu s=>yl G.c L u x λf=>n (nx q) G (.f f (some u)::s) m L)
  (fn:=λg O G s m L=>n (nx q) G (.f g none::s) m L)
  (call:=λj O G s m L=>nX j s [] λvs s=>ap0 s λf u s=>ae G.c G.n f (aps u vs) L (λv L=>n (nx q) G (.v v::s) m L) G.X)
  (isi:=λO G s m L=>dm s λu s=>apr (λv L=>n (nx q) G (.v v::s) m L) L u)
  (items:=λO G s m L=>dm s λu s=>adx G.c (λv L=>n (nx q) G (.v v::s) m L) L u)
  (idx:=λO G s m L=>dm s λv s=>dm s λu s=>du G.c G.n u v L (λv L=>n (nx q) G (.v v::s) m L) G.X)
  (prt:=λO G s m L=>dm s λv s=>∃ i,v=.int i∧n (nx q) G (.i (some i)::s) m L)
  (nop:=λO G s m L=>n (nx q) G (.i none::s) m L)
  (slc:=λO G s m L=>popI s λj s=>popI s λi s=>dm s λu s=>xT G.c G.n u i j L (λv L=>n (nx q) G (.v v::s) m L) G.X)
  (tup:=λj O G s m L=>nX j s [] λvs s=>n (nx q) G (.v (.tup vs)::s) m L)
  (list:=λj O G s m L=>nX j s [] λvs s=>n (nx q) G (.v (.list vs)::s) m L)
  (own:=λj O G s m L=>nX j s [] λvs s=>∀ a,n (nx q) G (.v (.obj a)::s) m ((a,.lst vs)::L))
  (list0:=λO G s m L=>n (nx q) G (.v (.list [])::s) m L∨∀ a,n (nx q) G (.v (.obj a)::s) m ((a,.lst [])::L))
  (dict0:=λO G s m L=>(∀ a,n (nx q) G (.v (.obj a)::s) m ((a,.dS [])::L))∨∀ a,n (nx q) G (.v (.obj a)::s) m ((a,.dI [])::L))
  (dA:=λO G s m L=>∀ a,n (nx q) G (.v (.obj a)::s) m ((a,.dS [])::L))
  (dB:=λxs O G s m L=>nX xs.length s [] λvs s=>apz s λa s=>∃ L3,bW L a (.dS []) L3∧((xs.zip vs).map (·.1)).Nodup∧(xs.zip vs).length≤100000∧n (nx q) G (.v (.obj a)::s) m ((a,.dS (xs.zip vs))::L3))
  (andc:=λO O G s m L=>aax s λt s=>bZ t (a (al q) G s m L) (n (nx q) G (.v (.bool false)::s) m L))
  (orc:=λO O G s m L=>aax s λt s=>bZ t (n (nx q) G (.v (.bool true)::s) m L) (a (al q) G s m L))
  (chain:=λop O O G s m L=>dm s λv s=>dm s λu s=>(wc op u v).f G.c G.n G.X L λr L=>onB r λt=>bZ t (a (al q) G (.v v::s) m L) (n (nx q) G (.v (.bool false)::s) m L))
  (br:=λO O G s m L=>aax s λt s=>bZ t (a (al q) G s m L) (n (nx q) G s m L))
  (not:=λO G s m L=>aax s λt s=>n (nx q) G (.v (.bool !t)::s) m L)
  (tb:=λO G s m L=>dm s λu s=>onB u λt=>n (nx q) G (.v (.bool t)::s) m L)
  (chk:=λf O G s m L=>onT (f G.env) (n (nx q) G s m L))
  (sto:=λx O G s m L=>dm s λv s=>onT (gx G.env x) (n (nx q) G s ((x,v)::m) L))
  (stA:=λx O G s m L=>dm s λu s=>dm s λv s=>OkW G.c G.n (λo x'=>Jf o x x') u v L (λL=>n (nx q) G s m L) G.X)
  (stI:=λO G s m L=>dm s λiv s=>dm s λu s=>dm s λv s=>g8 G.c G.n u iv v L (λL=>n (nx q) G s m L) G.X)
  (unp:=λj O G s m L=>dm s λv s=>ap2 v λvs=>onT (Gi j vs.length) (n (nx q) G (ajq vs s) m L))
  (popc:=λO G s m L=>dm s λO s=>n (nx q) G s m L)
  (sw:=λO O O O G s m L=>(Dg [(eA q)] (eB q) G.env=pure none∧a (al q) G s m L)∨∃ names,Dg [(eA q)] (eB q) G.env=pure (some names)∧n (nx q) G (.ns names::s) m L)
  (swB:=λO G s m L=>dm s λu s=>asr s λnames s=>∃ us,u=.tup us∧us.length=names.length∧ajr G.env names.reverse us.reverse m λm=>n (nx q) G s m L)
  (rs0:=λO G s m L=>2≤G.n∧n (nx q) G s m L)
  (rs:=λC j G s O L=>nX j s [] λvs O=>∃ msg,vs=[.str msg]∧G.X C L)
  (it:=λO G s m L=>dm s λv s=>∃ l,rH G.c v l L∧n (nx q) G (.l l::s) m L)
  (rng:=λj O G s m L=>nX j s [] λvs s=>∃ k:Int,vs=[.int k]∧0≤k∧k≤1000000000∧n (nx q) G (.l (bN k)::s) m L)
  (enm:=λj O G s m L=>nX j s [] λvs s=>∃ b:List UInt8,vs=[.bytes b]∧n (nx q) G (.l (ml 0 b)::s) m L)
  (forL:=λO O G s m L=>ap1 s λl s=>∃ J:Nat->Loc->ah->Prop,J 0 m L∧(∀ i x m1 L2,l[i]?=some x->J i m1 L2->let G':Gx:={ G with N:=J (i+1),K:=J (i+1) };a (al q) G' [.v x] m1 L2)∧∀ m1 L2,J l.length m1 L2->n (nx q) G s m1 L2)
  (lc:=λO O O O G s m L=>ap1 s λl s=>∃ f:V->Option V,l.length≤1000000∧(∀ C D o x,x∈l->onS (xX (eA q) x (xU (scO q) m)) λm1=>let G':Gx:=qF G (scO q) C D o L (f x);a (al q) G' [] m1 L)∧n (nx q) G (.v (.list (l.filterMap f))::s) m L)
  (brT:=λO G s m L=>aax s λt s=>G.K m L∧bZ t (n (nx q) G s m L) (G.N m L))
  (lock:=λO O G s m L=>∃ P L0,L.Perm (P++L0)∧let G':Gx:={ G with c:=hO G.c P,X:=λC L'=>G.X C (P++L'),R:=λv L'=>n (nx q) G (.v v::s) m (P++L') };a (al q) G' [] m L0)
  (whl:=λO O G s m L=>∃ (J:Nat->Loc->ah->Prop) (j:Nat),J j m L∧∀ j m1 L1,J j m1 L1->let G':Gx:={ G with K:=λm2 L3=>∃ k',k' <j∧J k' m2 L3,N:=λm1 L2=>n (nx q) G s m1 L2 };a (al q) G' [] m1 L1)
  (tr:=λC0 O O O G s m L=>(∀ a∈G.c.Fr,a∈ig G.env)∧let G':Gx:={ G with X:=λC L1=>(∀ P,exmOne (K0 P) (.ref C) (.ref C0)=some true)∧(ym (stO q)).f G.env m L1 (λm L=>n (nx q) G s m L) G.R,N:=λm L=>n (nx q) G s m L };a (al q) G' [] m L)
  (asl:=λO O O O G s m L=>Hj (eA q) (some (eB q)) (lnO q) G.env=pure true∧n (nx q) G s m L)
noncomputable def dL (n a:Sm) (q:aW):Sm:=step (λO=>n) (λO=>a) q
noncomputable def bd:Sm:=λO O O O=>False
noncomputable def run (k:aW):Sm:=
 aW.rec (motive:=λO=>Sm)
  (done:=dL bd bd .done)
  (cont:=dL bd bd .cont)
  (ret:=dL bd bd .ret)
  (bad:=dL bd bd .bad)
  (push:=λu k ik=>dL ik ik (.push u k))
  (name:=λx k ik=>dL ik ik (.name x k))
  (un:=λop k ik=>dL ik ik (.un op k))
  (bin:=λop k ik=>dL ik ik (.bin op k))
  (cmp:=λop k ik=>dL ik ik (.cmp op k))
  (attr:=λx k ik=>dL ik ik (.attr x k))
  (meth:=λx k ik=>dL ik ik (.meth x k))
  (fn:=λg k ik=>dL ik ik (.fn g k))
  (call:=λj k ik=>dL ik ik (.call j k))
  (isi:=λk ik=>dL ik ik (.isi k))
  (items:=λk ik=>dL ik ik (.items k))
  (idx:=λk ik=>dL ik ik (.idx k))
  (prt:=λk ik=>dL ik ik (.prt k))
  (nop:=λk ik=>dL ik ik (.nop k))
  (slc:=λk ik=>dL ik ik (.slc k))
  (tup:=λj k ik=>dL ik ik (.tup j k))
  (list:=λj k ik=>dL ik ik (.list j k))
  (own:=λj k ik=>dL ik ik (.own j k))
  (list0:=λk ik=>dL ik ik (.list0 k))
  (dict0:=λk ik=>dL ik ik (.dict0 k))
  (dA:=λk ik=>dL ik ik (.dA k))
  (dB:=λxs k ik=>dL ik ik (.dB xs k))
  (andc:=λa k ia ik=>dL ik ia (.andc a k))
  (orc:=λa k ia ik=>dL ik ia (.orc a k))
  (chain:=λop a k ia ik=>dL ik ia (.chain op a k))
  (br:=λa b ia ib=>dL ib ia (.br a b))
  (not:=λk ik=>dL ik ik (.not k))
  (tb:=λk ik=>dL ik ik (.tb k))
  (chk:=λf k ik=>dL ik ik (.chk f k))
  (sto:=λx k ik=>dL ik ik (.sto x k))
  (stA:=λx k ik=>dL ik ik (.stA x k))
  (stI:=λk ik=>dL ik ik (.stI k))
  (unp:=λj k ik=>dL ik ik (.unp j k))
  (popc:=λk ik=>dL ik ik (.popc k))
  (sw:=λt v a b ia ib=>dL ib ia (.sw t v a b))
  (swB:=λk ik=>dL ik ik (.swB k))
  (rs0:=λk ik=>dL ik ik (.rs0 k))
  (rs:=λC j=>dL bd bd (.rs C j))
  (it:=λk ik=>dL ik ik (.it k))
  (rng:=λj k ik=>dL ik ik (.rng j k))
  (enm:=λj k ik=>dL ik ik (.enm j k))
  (forL:=λb k ib ik=>dL ik ib (.forL b k))
  (lc:=λtg sc b k ib ik=>dL ik ib (.lc tg sc b k))
  (brT:=λb ib=>dL ib ib (.brT b))
  (lock:=λb k ib ik=>dL ik ib (.lock b k))
  (whl:=λt k it ik=>dL ik it (.whl t k))
  (tr:=λC b e k ie ik=>dL ik ie (.tr C b e k))
  (asl:=λv t line k ik=>dL ik ik (.asl v t line k))
  k
noncomputable def aea (f:Nat) (q:aW):Sm:=@Nat.rec (λO=>aW->Sm) run (λO r q=>step r r q) f q
theorem uC:∀ f:Nat,aea f=run
 | 0=>rfl
 | f+1=>by
  show (λq=>step (aea f) (aea f) q)=run
  rw [uC f]
  exact funext λq=>by cases q <;> rfl
noncomputable def ahy (vs:List V):List Sv->List Sv:=@Gb V (λO=>List Sv->List Sv) (λs=>s) (λv O ih s=>ih (.v v::s)) vs
theorem wd {dT:List V} {f:List V->List Sv->Prop}:∀ {vs:List V} {s:List Sv} {j:Nat},nX (vs.length+j) (ahy vs s) dT f->nX j s (vs++dT) f
 | [],s,j,h=>by rwa [show ([]:List V).length+j=j from C9 j] at h
 | v::vs,s,j,h=>wd (vs:=vs) (s:=.v v::s) (j:=j+1) (by rwa [show (v::vs).length+j=vs.length+(j+1) from by rw [AJ,Nat.succ_add];rfl] at h)
theorem gJ {vs:List V} {s:List Sv} {j:Nat} {f:List V->List Sv->Prop} (h:nX j (ahy vs s) [] f) (e:vs.length=j):f vs s:=by
 subst e
 have:=wd (j:=0) h
 rwa [A6] at this
structure PR (p:(aW->aW)->Prop) where
 c:aW->aW
 ok:p c
noncomputable def PCE (e:Expr) (c:aW->aW):Prop:=∀ {G:Gx} {k:aW} {s:List Sv} {m:Loc} {L:ah},run (c k) G s m L->bv G.c G.n G.env m (eval e G.env) L (λv L=>run k G (.v v::s) m L) G.X
noncomputable abbrev CE (e:Expr):=PR (PCE e)
noncomputable def PCB (e:Expr) (c:aW->aW):Prop:=∀ {G:Gx} {k:aW} {s:List Sv} {m:Loc} {L:ah},run (c k) G s m L->lF G.c G.n G.env m (Bj e G.env (eval e G.env)) L (λt L=>run k G (.v (.bool t)::s) m L) G.X
noncomputable abbrev CB (e:Expr):=PR (PCB e)
noncomputable def PCS (t:Stmt) (c:aW->aW):Prop:=∀ {G:Gx} {k:aW} {s:List Sv} {m:Loc} {L:ah},run (c k) G s m L->fD G.c G.env G.n m (exec t G.env) L (λm L=>run k G s m L) G.R G.K G.X
noncomputable abbrev CS (t:Stmt):=PR (PCS t)
structure WP where
 E:(e:Expr)->CE e
 B:(e:Expr)->CB e
 S:(s:Stmt)->CS s
noncomputable def mA (b:Bool) (k:aW):aW:=@Ih (λO=>aW) .bad k b
noncomputable def onC {α:Type} (o:Option α) (f:α->aW):aW:=@H3 α (λO=>aW) .bad f o
section
variable {G:Gx} {s:List Sv} {m:Loc} {L:ah}
theorem aD {b:Bool} {k:aW} (h:run (mA b k) G s m L):b=true∧run k G s m L:=by
 match b,h with
 | true,h=>exact ⟨rfl,h⟩
theorem qG {α:Type} {o:Option α} {f:α->aW} (h:run (onC o f) G s m L):∃ a,o=some a∧run (f a) G s m L:=by
 match o,h with
 | some a,h=>exact ⟨a,rfl,h⟩
end
noncomputable def noE (e:Expr):CE e:=⟨λO=>.bad,DW⟩
noncomputable def noB (e:Expr):CB e:=⟨λO=>.bad,DW⟩
noncomputable def noS (s:Stmt):CS s:=⟨λO=>.bad,DW⟩
noncomputable def asu (es:List Expr) (c:aW->aW):Prop:=∀ {G:Gx} {k:aW} {s:List Sv} {m:Loc} {L:ah} {pos:Pos},noStar es=true->run (c k) G s m L->cI G.c G.n G.env m (AY pos (Ay es G.env)) L (λvs L=>run k G (ahy vs s) m L∧vs.length=es.length) G.X
noncomputable abbrev CEs (es:List Expr):=PR (asu es)
noncomputable def yn (w:WP) (es:List Expr):CEs es:=
 @Gb Expr (λes=>CEs es) ⟨λk=>k,λO h=>vg ⟨h,rfl⟩⟩
  (λe O ih=>⟨λk=>(w.E e).c (ih.c k),λhn h=>zU (((w.E e).ok h).post λO O h1=>(ih.ok (cT hn).2 h1).post λO O h2=>⟨h2.1,congrArg Fb h2.2⟩) (fq (cT hn).1)⟩) es
section
variable (w:WP)
noncomputable def aeb (e:Option Expr) (k:aW):aW:=@H3 Expr (λO=>aW) (.nop k) (λe=>(w.E e).c (.prt k)) e
theorem we {G:Gx} {k:aW} {s:List Sv} {m:Loc} {L:ah} {e:Option Expr} (h:run (aeb w e k) G s m L):ja G.c G.n G.env m e L (λi L=>run k G (.i i::s) m L) G.X:=by
 match e,h with
 | none,h=>exact aln h
 | some e,h=>exact alo ((w.E e).ok h)
noncomputable def zb (ifs:List Expr) (elt:Expr):aW:=
 match ifs with
 | []=>(w.E elt).c .ret
 | [t]=>(w.B t).c (.brT ((w.E elt).c .ret))
 | _=>.bad
theorem ahz {G:Gx} {sc:Scope} {C D:Addr} {o:List V} {m:Loc} {L:ah} {ifs:List Expr} {elt:Expr} {r:Option V} (h:run (zb w ifs elt) (qF G sc C D o L r) [] m L):TurnOk (oV G.c C D o) G.n (nM sc G.env C) m ifs elt L r:=by
 match ifs,h with
 | [],h=>exact (w.E elt).ok (G:=qF G sc C D o L r) h
 | [t],h=>
  refine ((w.B t).ok (G:=qF G sc C D o L r) h).post λb L' h1=>?_
  have h1:L'=L∧bZ b (run ((w.E elt).c .ret) (qF G sc C D o L r) [] m L') (r=none):=h1
  refine ⟨h1.1,?_⟩
  have h2:=h1.2
  rw [h1.1] at h2
  match b,h2 with
  | true,h2=>exact (w.E elt).ok (G:=qF G sc C D o L r) h2
  | false,h2=>exact h2
noncomputable def ajs (e:Expr):Bool:=kin [25] e
noncomputable def qH (e:Expr):Bool:=kin [7] e
noncomputable def PCI (rel:Rel) (tg it:Expr) (c:aW->aW):Prop:=∀ {G:Gx} {k:aW} {s:List Sv} {m:Loc} {L:ah},run (c k) G s m L->cF rel G.c G.n G.env m tg it L (λl L=>run k G (.l l::s) m L) G.X
noncomputable abbrev CI (rel:Rel) (tg it:Expr):=PR (PCI rel tg it)
noncomputable def aec (tg it:Expr):CI VR tg it:=⟨λk=>(w.E it).c (.it k),λh=>ala ((w.E it).ok h)⟩
noncomputable def al6 (tg:Expr) (np p:Pos) (args:List Expr):CI VR tg (.Call (.Name "range" np) args [] p):=
 ⟨λk=>mA (noStar args) (.chk (λenv=>env.kindOf "range"==some .globalImplicit) ((yn w args).c (.rng args.length k))),λh=>by
  have h1:=aD h
  have h2:=bh h1.2
  exact vN (eq_of_beq h2.1) (((yn w args).ok h1.1 h2.2).post λvs L1 h3=>gJ h3.1 h3.2) (eM h1.1)⟩
noncomputable def ap7 (elts:List Expr) (tk:Nat) (tp np p:Pos) (args:List Expr):CI (VRt (.Tuple elts tk tp)) (.Tuple elts tk tp) (.Call (.Name "enumerate" np) args [] p):=
 ⟨λk=>mA (noStar args) (.chk (λenv=>env.kindOf "enumerate"==some .globalImplicit) ((yn w args).c (.enm args.length k))),λh=>by
  have h1:=aD h
  have h2:=bh h1.2
  exact x6 (eq_of_beq h2.1) (((yn w args).ok h1.1 h2.2).post λvs L1 h3=>gJ h3.1 h3.2) (eM h1.1)⟩
noncomputable def zc (tg it:Expr):CI VR tg it:=
 match it with
 | .Call (.Name x np) args [] p=>if h:x="range" then h▸al6 w tg np p args else aec w tg _
 | _=>aec w tg _
noncomputable def CI.vrt {tg it:Expr} (x:CI VR tg it):CI (VRt tg) tg it:=⟨x.c,λh=>(x.ok h).vrt⟩
noncomputable def uD (tg it:Expr):CI (VRt tg) tg it:=
 match tg,it with
 | .Tuple elts tk tp,.Call (.Name x np) args [] p=>if h:x="enumerate" then h▸ap7 w elts tk tp np p args else (zc w _ _).vrt
 | _,_=>(zc w _ _).vrt
theorem dZ {b:Bool} {P P' Q Q':Prop} (h:bZ b P Q) (hp:P->P') (hq:Q->Q'):bZ b P' Q':=match b,h with
 | true,h=>hp h
 | false,h=>hq h
noncomputable def ap8 (x:Str) (p:Pos):CE (.Name x p):=
 ⟨λk=>mA (!(x=="__debug__")&&!(x=="__classdict__")) (.name x k),λh=>by
  have h1:=aD h
  have h2:=h1.1
  rw [Al,Bm,Bm] at h2
  exact ad8 h2.1 h2.2 h1.2⟩
noncomputable def al7 (k:Const) (a:Nat) (p:Pos):CE (.Constant k a p):=
 match k with
 | .int i=>⟨.push (.int i),λh=>aoh h⟩
 | .str s=>⟨.push (.str s),λh=>aoi h⟩
 | .none=>⟨.push .none,λh=>ak2 h⟩
 | .bool b=>⟨.push (.bool b),λh=>ak3 h⟩
 | .bytes b=>⟨.push (.bytes b),λh=>agr h⟩
 | _=>noE _
theorem uE {op:Ex} {b:Expr} (h:(!qH b)=true):Er op b=false:=by
 match b,h with
 | b,h=>cases b <;> first | rfl | cases h
theorem bj.bool {c:Cx} {n:Nat} {op:Ae->Ae->Sem Ae} {u v:V} {L:ah} {X:ac} {K:Bool->ah->Prop} {Q:ad} (h:bj c n op u v L (λr L'=>onB r λt=>K t L') X) (hq:∀ t L',K t L'->Q (.bool t) L'):bj c n op u v L Q X:=
 ⟨λA s r1 r2 hb hf S x1 x2=>BC (h.go A s r1 r2 hb hf S x1 x2) (λO O ⟨_,L',q,S',hv,e⟩=>let ⟨t,e1,q⟩:=qE q;⟨_,L',hq t L' q,S',e1▸hv,e⟩) λO O z=>z⟩
noncomputable def ajt (a b:Expr) (op:Ex) (p:Pos):CE (.Compare a [op] [b] p):=
 ⟨λk=>mA (!qH b) ((w.E a).c ((w.E b).c (.cmp op k))),λh=>
  aol (((w.E a).ok (aD h).2).post λu L1 h3=>((w.E b).ok h3).post λv L2 h4=>(wc op u v).ok h4) (uE (aD h).1)⟩
noncomputable def aju (a b d:Expr) (o1 o2:Ex) (p:Pos):CE (.Compare a [o1,o2] [b,d] p):=
 ⟨λk=>mA (!qH d) ((w.E a).c ((w.E b).c (.chain o1 ((w.E d).c (.cmp o2 k)) k))),λh=>
  ahe (((w.E a).ok (aD h).2).post λu L1 h3=>((w.E b).ok h3).post λv L2 h4=>((wc o1 u v).ok h4).bool λt L3 h5=>⟨t,rfl,dZ h5 (λh=>((w.E d).ok h).post λz L4 h6=>(wc o2 v z).ok h6) id⟩) (uE (aD h).1)⟩
noncomputable def asv (a:Expr) (ops:List Ex) (rs:List Expr) (p:Pos):CE (.Compare a ops rs p):=
 match ops,rs with
 | [op],[b]=>ajt w a b op p
 | [o1,o2],[b,d]=>aju w a b d o1 o2 p
 | _,_=>noE _
theorem aed {e:Expr} {x:Str} {p:Pos} {env:Env} (h:nW e=true):eval (.Attribute e x p) env=(do
 let o ← eval e env
 DR p.atName
 let r ← CW [o] (Hg o x true)
 GU e o r
 pure r):=by
 rw [arm_eval_Attribute,za h]
noncomputable def ap9 (o:Expr) (x:Str) (p:Pos):CE (.Attribute o x p):=
 ⟨λk=>mA (nW o) ((w.E o).c (.attr x k)),λh=>
  ak5 (((w.E o).ok (aD h).2).post λu L1 h3=>by
   refine e54 (yk.go h3) λa C d fs w' q1' hm hk hf hq=>?_
   subst q1'
   exact alh hm hk hf hq) (aed (aD h).1)⟩
noncomputable def yo (x:Str) (np:Pos) (args:List Expr) (p:Pos):CE (.Call (.Name x np) args [] p):=
 ⟨λk=>mA (noStar args&&!(x=="__debug__")) (onC ((oU x.cps.size).lookup x) λf=>mA (qt f) (.chk (λenv=>env.kindOf x==some .globalImplicit) (.fn f ((yn w args).c (.call args.length k))))),λh=>by
  have h1:=aD h
  refine an (qG h1.2) λf e h3=>?_
  have h4:=aD h3
  have h5:=bh h4.2
  have h2:=h1.1
  rw [Al,Bm] at h2
  exact ag6 (eq_of_beq h5.1) e h4.1 (((yn w args).ok h2.1 h5.2).post λvs L1 h6=>gJ h6.1 h6.2) (eM h2.1) h2.2⟩
noncomputable def asw (np sp p:Pos) (a:Expr):CE (.Call (.Name "isinstance" np) [a,.Name "str" sp] [] p):=
 ⟨λk=>mA (!ajo a) (.chk (λenv=>env.kindOf "isinstance"==some .globalImplicit&&env.kindOf "str"==some .globalImplicit) ((w.E a).c (.isi k))),λh=>by
  have h1:=aD h
  have h2:=bh h1.2
  have h3:=h2.1
  have h4:=h1.1
  rw [Al,beq_iff_eq,beq_iff_eq] at h3
  rw [Bm] at h4
  exact apt h3.1 h3.2 h4 ((w.E a).ok h2.2)⟩
noncomputable def al8 (np ap p1 p:Pos) (o:Expr):CE (.Call (.Name "list" np) [.Call (.Attribute o "items" ap) [] [] p1] [] p):=
 ⟨λk=>mA (nW o&&ap.endLine==p1.line) (.chk (λenv=>env.kindOf "list"==some .globalImplicit) ((w.E o).c (.items k))),λh=>by
  have h1:=aD h
  have h2:=bh h1.2
  have h3:=h1.1
  rw [Al,beq_iff_eq] at h3
  exact ady (eq_of_beq h2.1) (uA h3.1 rfl rfl h3.2) ((w.E o).ok h2.2)⟩
noncomputable def al9 (x:Str) (np:Pos) (args:List Expr) (p:Pos):CE (.Call (.Name x np) args [] p):=
 match args with
 | [a,.Name y sp]=>if h:x="isinstance"∧y="str" then h.1▸h.2▸asw w np sp p a else yo w x np _ p
 | [.Call (.Attribute o y ap) [] [] p1]=>if h:x="list"∧y="items" then h.1▸h.2▸al8 w np ap p1 p o else yo w x np _ p
 | args=>yo w x np args p
noncomputable def ama (o:Expr) (x:Str) (ap:Pos) (args:List Expr) (p:Pos):CE (.Call (.Attribute o x ap) args [] p):=
 ⟨λk=>mA (noStar args&&nW o&&Iz args.length 30&&ap.endLine==p.line) ((w.E o).c (.meth x ((yn w args).c (.call args.length k)))),λh=>by
  have h1:=(aD h).1
  rw [Al,Al,Al,beq_iff_eq] at h1
  exact alc (((w.E o).ok (aD h).2).post λu L1 h3=>let ⟨f,hm,h4⟩:=yl.go h3;apx hm (((yn w args).ok h1.1.1.1 h4).post λvs L1 h6=>gJ (f:=λvs s=>ap0 s λf u s=>ae _ _ f (aps u vs) _ _ _) h6.1 h6.2) (eM h1.1.1.1)) (uA h1.1.1.2 h1.1.1.1 h1.1.2 h1.2)⟩
noncomputable def ajv (e:Expr):Bool:=kin [2,3,19,20,21,23] e
theorem amb {i:Expr} {o j:Ae} (h:ajv i=true):subscripted i false o j=operate [o,j] (getItem o j):=by
 cases i <;> first | rfl | cases h
noncomputable def asx (o i:Expr) (p:Pos):CE (.Subscript o i p):=
 match i with
 | .Slice lo hi none sp=>⟨λk=>(w.E o).c (aeb w lo (aeb w hi (.slc k))),λh=>
  ag8 (((w.E o).ok h).post λu L1 h1=>(we w h1).post λi L2 h2=>we w h2)⟩
 | i=>⟨λk=>mA (ajv i) ((w.E o).c ((w.E i).c (.idx k))),λh=>
  ao4 (((w.E o).ok (aD h).2).post λu L1 h3=>(w.E i).ok h3) λO O=>amb (aD h).1⟩
theorem zd {u:V} {s:List Sv} {f:Bool->List Sv->Prop} (h:aax (.v u::s) f):∃ t,u=.bool t∧f t s:=by
 match u,h with
 | .bool t,h=>exact ⟨t,rfl,h⟩
noncomputable def asy (a b:Expr) (p:Pos):CE (.BoolOp .And [a,b] p):=
 ⟨λk=>(w.E a).c (.andc ((w.E b).c k) k),λh=>
  als (((w.E a).ok h).post λu L1 h1=>let ⟨t,e,h2⟩:=zd h1;⟨t,e,dZ h2 (w.E b).ok id⟩)⟩
noncomputable def eOr (a b:Expr) (p:Pos):CE (.BoolOp .Or [a,b] p):=
 ⟨λk=>(w.E a).c (.orc ((w.E b).c k) k),λh=>
  apv (((w.E a).ok h).post λu L1 h1=>let ⟨t,e,h2⟩:=zd h1;⟨t,e,dZ h2 id (w.E b).ok⟩)⟩
noncomputable def aqa (es:List Expr):Bool:=D7 es.length 1000
theorem uF {es:List Expr} (h:(aqa es&&noStar es)=true):es.length≤1000∧noStar es=true:=by
 rw [Al] at h
 exact ⟨Bq h.1,h.2⟩
noncomputable def aqb (es:List Expr) (d:aW->aW) (k:aW):aW:=mA (aqa es&&noStar es) ((yn w es).c (d k))
theorem ah0 {j:Nat} {k:aW} {G:Gx} {s:List Sv} {m:Loc} {L:ah} (h:run (.own j k) G s m L):nX j s [] λvs s=>∀ a,run k G (.v (.obj a)::s) m ((a,.lst vs)::L):=h
noncomputable def aqc (es:List Expr) (p:Pos):CE (.List es p):=
 match es with
 | []=>⟨.list0,λh=>h.elim (λh=>acm (vg ⟨BQ _,h⟩)) λh=>ag9 h⟩
 | [.Tuple [x1,x2,x3,x4] k q]=>⟨λc=>mA (noStar [.Tuple [x1,x2,x3,x4] k q]) ((yn w [.Tuple [x1,x2,x3,x4] k q]).c (.own 1 c)),λh=>
  aau (((yn w _).ok (aD h).1 (aD h).2).post λvs L1 h5=>⟨by rw [h5.2];exact (by decide:1≤1000),gJ (ah0 h5.1) h5.2⟩)⟩
 | es=>⟨aqb w es (.list es.length),λh=>
  acm (((yn w es).ok (uF (aD h).1).2 (aD h).2).post λvs L1 h5=>⟨by rw [h5.2];exact (uF (aD h).1).1,gJ h5.1 h5.2⟩)⟩
noncomputable def asz (es:List Expr) (k:Nat) (p:Pos):CE (.Tuple es k p):=
 ⟨aqb w es (.tup es.length),λh=>
  agt (((yn w es).ok (uF (aD h).1).2 (aD h).2).post λvs L1 h5=>⟨by rw [h5.2];exact (uF (aD h).1).1,gJ h5.1 h5.2⟩)⟩
structure CD (ks:List (Option Expr)) (vs:List Expr) where
 xs:List Str
 c:aW->aW
 ok:∀ {G:Gx} {k:aW} {s:List Sv} {m:Loc} {L:ah} {pos:Pos},run (c k) G s m L->vX G.c G.n G.env m (Hm ks vs G.env pos) L (λkvs L=>∃ us,us.length=xs.length∧kvs=xs.zip us∧run k G (ahy us s) m L) G.X
noncomputable def noD (ks:List (Option Expr)) (vs:List Expr):CD ks vs:=⟨[],λO=>.bad,DW⟩
noncomputable def aqd {e:Expr} {ks:List (Option Expr)} {es:List Expr} (x:Str) (a:Nat) (p:Pos) (h:CE e) (d:CD ks es):CD (some (.Constant (.str x) a p)::ks) (e::es):=
 ⟨x::d.xs,λk=>h.c (d.c k),λz=>aan ((h.ok z).post λv L1 h1=>(d.ok h1).post λkvs L2 h2=>by
  refine ec h2 λus a b z=>?_
  exact ⟨v::us,congrArg Fb a,by rw [b];rfl,z⟩)⟩
noncomputable def wDs (ks:List (Option Expr)):(vs:List Expr)->CD ks vs:=
 @Gb (Option Expr) (λks=>(vs:List Expr)->CD ks vs) (λvs=>match vs with
  | []=>⟨[],λk=>k,λh=>adu ⟨[],rfl,rfl,h⟩⟩
  | _=>noD _ _) (λk ks ih vs=>match k,vs with
  | some (.Constant (.str x) a p),e::es=>aqd x a p (w.E e) (ih es)
  | _,_=>noD _ _) ks
end
section
variable (w:WP)
noncomputable def aqe (ks:List (Option Expr)) (vs:List Expr) (p:Pos):CE (.Dict ks vs p):=
 match ks,vs with
 | [],[]=>⟨.dict0,λh=>h.elim (λh=>ac7 h) λh=>ac8 h⟩
 | k::ks,vs=>⟨λc=>mA (D7 (k::ks).length 15&&(k::ks).all (·.isSome)&&Gi (k::ks).length vs.length) (.dA ((wDs w (k::ks) vs).c (.dB (wDs w (k::ks) vs).xs c))),λh=>by
  have h1:=(aD h).1
  rw [Al,Al] at h1
  show[aho h1.1.2 (GR h1.2) (by intro q;cases q) (Bq h1.1.1) λa=>((wDs w (k::ks) vs).ok ((aD h).2 a)).post λkvs L2 h3=>?_,ec h3 λus e1 e2 h4=>?_]
  rw [e2]
  exact gJ (f:=λvs s=>apz s λa s=>∃ L3,bW L2 a (.dS []) L3∧_) h4 e1⟩
 | _,_=>noE _
theorem nY {it:Expr} {env:Env} (h:qH it=false):∀ x,CQ it env x=pure x:=by
 intro x
 cases it <;> first | rfl | cases h
noncomputable def wLC (tg it:Expr) (ifs:List Expr) (as:Int) (elt:Expr) (sc:Scope) (k:aW):aW:=
 mA (as==0&&!qH it) (.chk (λenv=>jb tg sc env) ((uD w tg it).c (.lc tg sc (zb w ifs elt) k)))
theorem wf {G:Gx} {tg elt:Expr} {ifs:List Expr} {sc:Scope} {m:Loc} {L:ah} {l:List V} {f:V->Option V} (h:∀ C D o x,x∈l->onS (xX tg x (xU sc m)) λm1=>run (zb w ifs elt) (qF G sc C D o L (f x)) [] m1 L):nN G.c G.n G.env m tg elt ifs sc L l f:=
 λC D o x hx=>let ⟨m1,e,h1⟩:=jf (h C D o x hx);⟨m1,e,ahz w h1⟩
theorem aee {tg it elt:Expr} {ifs:List Expr} {as:Int} {sc:Scope} {G:Gx} {k:aW} {s:List Sv} {m:Loc} {L:ah} {p:Pos} (h:run (wLC w tg it ifs as elt sc k) G s m L):bv G.c G.n G.env m (eval (.ListComp elt [⟨tg,it,ifs,as⟩] sc p) G.env) L (λv L=>run k G (.v v::s) m L) G.X:=by
 have h1:=(aD h).1
 rw [Al,beq_iff_eq,Bm] at h1
 have h2:=bh (aD h).2
 refine bS h1 λh0 h3=>?_
 subst h0
 exact asm (((uD w tg it).ok h2.2).post λl L1 ⟨f,a,b,d⟩=>⟨f,a,wf w b,d⟩) h2.1 (nY h3)
noncomputable def eLC (elt:Expr) (g:FI) (sc:Scope) (p:Pos):CE (.ListComp elt [g] sc p):=
 match g with
 | ⟨tg,.Attribute o x q,ifs,as⟩=>⟨.lock (wLC w tg (.Attribute o x q) ifs as elt sc .ret),λ⟨_,_,hp,h⟩=>ahq hp (aee w h)⟩
 | ⟨tg,it,ifs,as⟩=>⟨wLC w tg it ifs as elt sc,λh=>aee w h⟩
noncomputable def aqf (e:Expr):CE e:=
 match e with
 | .Name x p=>ap8 x p
 | .Constant k a p=>al7 k a p
 | .BinOp a op b p=>⟨λk=>(w.E a).c ((w.E b).c (.bin op k)),λh=>aoj (((w.E a).ok h).post λu L1 h1=>((w.E b).ok h1).post λv L2 h2=>(ap4 op u v).ok h2)⟩
 | .UnaryOp op a p=>⟨λk=>(w.E a).c (.un op k),λh=>asf ((w.E a).ok h)⟩
 | .Compare a ops rs p=>asv w a ops rs p
 | .BoolOp .And [a,b] p=>asy w a b p
 | .BoolOp .Or [a,b] p=>eOr w a b p
 | .IfExp t a b p=>⟨λk=>(w.B t).c (.br ((w.E a).c k) ((w.E b).c k)),λh=>adf (((w.B t).ok h).post λtb L1 h1=>dZ h1 (w.E a).ok (w.E b).ok)⟩
 | .Tuple es k p=>asz w es k p
 | .List es p=>aqc w es p
 | .Dict ks vs p=>aqe w ks vs p
 | .Attribute o x p=>ap9 w o x p
 | .Call (.Name x np) args [] p=>al9 w x np args p
 | .Call (.Attribute o x ap) args [] p=>ama w o x ap args p
 | .Subscript o i p=>asx w o i p
 | .ListComp elt [g] sc p=>eLC w elt g sc p
 | _=>noE _
theorem aqg {G:Gx} {k:aW} {s:List Sv} {m:Loc} {L:ah} {u:V} (h:run (.tb k) G (.v u::s) m L):∃ t,u=.bool t∧run k G (.v (.bool t)::s) m L:=qE h
noncomputable def amc {e:Expr} (x:CE e) (he:∀ (env:Env) (t:Sem Ae),Bj e env t=(do let v ← t;DR e.pos;CW [v] (FH v))):CB e:=
 ⟨λk=>x.c (.tb k),λh=>ak4 ((x.ok h).post λu L1 h1=>let ⟨_,e,h2⟩:=aqg h1;e▸ajk h2) (he _)⟩
theorem bj.boolT {c:Cx} {n:Nat} {op:Ae->Ae->Sem Ae} {u v:V} {L:ah} {X:ac} {Q:Bool->ah->Prop} (h:bj c n op u v L (λr L'=>onB r λt=>Q t L') X):bj c n op u v L (λv L=>OkT c n v L Q X) X:=
 ⟨λA s r1 r2 hb hf S x1 x2=>BC (h.go A s r1 r2 hb hf S x1 x2) (λO O ⟨_,L',q,S',hv,e⟩=>let ⟨_,e1,q⟩:=qE q;⟨_,L',ajk q,S',e1▸hv,e⟩) λO O z=>z⟩
noncomputable def as2 (a:Expr) (ops:List Ex) (rs:List Expr) (p:Pos):CB (.Compare a ops rs p):=
 match ops,rs with
 | [op],[b]=>⟨λk=>(ajt w a b op p).c (.tb k),λh=>zQ (((w.E a).ok (aD h).2).post λu L1 h3=>((w.E b).ok h3).post λv L2 h4=>((wc op u v).ok h4).boolT) (uE (aD h).1)⟩
 | [o1,o2],[b,d]=>⟨λk=>(aju w a b d o1 o2 p).c (.tb k),λh=>vP (((w.E a).ok (aD h).2).post λu L1 h3=>((w.E b).ok h3).post λv L2 h4=>((wc o1 u v).ok h4).bool λt L3 h5=>⟨t,rfl,dZ h5 (λh=>((w.E d).ok h).post λz L4 h6=>((wc o2 v z).ok h6).bool λt O h=>⟨t,rfl,h⟩) id⟩) (uE (aD h).1)⟩
 | _,_=>noB _
noncomputable def aqh (e:Expr):CB e:=
 match e with
 | .UnaryOp .Not a _=>⟨λk=>(w.B a).c (.not k),λh=>zR ((w.B a).ok h)⟩
 | .BoolOp .And [] _=>⟨.push (.bool true),λh=>xF h⟩
 | .BoolOp .Or [] _=>⟨.push (.bool false),λh=>zS h⟩
 | .BoolOp .And (x::r) p=>⟨λk=>(w.B x).c (.andc ((w.B (.BoolOp .And r p)).c k) k),λh=>x7 (((w.B x).ok h).post λt L1 h1=>dZ h1 (w.B _).ok id)⟩
 | .BoolOp .Or (x::r) p=>⟨λk=>(w.B x).c (.orc ((w.B (.BoolOp .Or r p)).c k) k),λh=>aag (((w.B x).ok h).post λt L1 h1=>dZ h1 id (w.B _).ok)⟩
 | .Compare a ops rs p=>as2 w a ops rs p
 | .Name x p=>amc (w.E (.Name x p)) λO O=>rfl
 | .Attribute o x p=>amc (w.E (.Attribute o x p)) λO O=>rfl
 | .Call f as ks p=>amc (w.E (.Call f as ks p)) λO O=>rfl
 | _=>noB _
end
noncomputable def as3 (ts:List Stmt) (c:aW->aW):Prop:=∀ {G:Gx} {k:aW} {s:List Sv} {m:Loc} {L:ah},run (c k) G s m L->fD G.c G.env G.n m (Cw ts G.env) L (λm L=>run k G s m L) G.R G.K G.X
noncomputable abbrev CSs (ts:List Stmt):=PR (as3 ts)
noncomputable def PCA (t:Expr) (c:aW->aW):Prop:=∀ {G:Gx} {k:aW} {v:V} {s:List Sv} {m:Loc} {L:ah},run (c k) G (.v v::s) m L->zW G.c G.env G.n m (assign t G.env) v L (λm L=>run k G s m L) G.X
noncomputable abbrev CA (t:Expr):=PR (PCA t)
noncomputable def as4 (ts:List Expr) (c:aW->aW):Prop:=∀ {G:Gx} {k:aW} {vs:List V} {s:List Sv} {m:Loc} {L:ah},ts.length=vs.length->run (c k) G (ajq vs s) m L->tO G.c G.env G.n m ((Bo ts G.env).map (·.2)) vs L (λm L=>run k G s m L) G.X
noncomputable abbrev CIn (ts:List Expr):=PR (as4 ts)
noncomputable def noA (t:Expr):CA t:=⟨λO=>.bad,DW⟩
noncomputable def pg (e:Expr):Bool:=kin [20,21,23] e
theorem fe {env:Env} {t:Expr} {ts:List Expr} (h:pg t=true):Bo (t::ts) env=(false,assign t env)::Bo ts env:=by cases t <;> first | rfl | cases h
theorem jg {env:Env}:∀ {ts:List Expr},ts.all pg=true->(Bo ts env).length=ts.length∧(Bo ts env).findIdx? (·.1)=none
 | [],_=>⟨rfl,rfl⟩
 | t::ts,h=>by
  rw [HE,Al] at h
  obtain ⟨a,b⟩:=jg h.2
  rw [fe h.1]
  refine ⟨congrArg Fb a,?_⟩
  rw [Fc,b]
  rfl
section
variable (w:WP)
noncomputable def wSs (ts:List Stmt):CSs ts:=
 @Gb Stmt (λts=>CSs ts) ⟨λk=>k,λh=>aoo h⟩ (λt O ih=>⟨λk=>(w.S t).c (ih.c k),λh=>aji (((w.S t).ok h).mono (λO O h1=>ih.ok h1) (λO O x=>x) (λO O x=>x) λO O x=>x)⟩) ts
noncomputable def wA1 (t:Expr):CA t:=
 match t with
 | .Name x p=>⟨.sto x,λh=>let ⟨a,b⟩:=bh h;agx a b⟩
 | .Attribute o x p=>⟨λk=>(w.E o).c (.stA x k),λh=>agy ((w.E o).ok h)⟩
 | .Subscript o i p=>⟨λk=>(w.E o).c ((w.E i).c (.stI k)),λh=>alp (((w.E o).ok h).post λu L1 h1=>(w.E i).ok h1)⟩
 | _=>noA _
noncomputable def wAs (ts:List Expr):CIn ts:=
 @Gb Expr (λts=>CIn ts) ⟨λk=>k,λ{_ _ vs _ _ _} e h=>by
  match vs,e,h with
  | [],_,h=>exact vo h⟩
  (λt O ih=>⟨λk=>mA (pg t) ((wA1 w t).c (ih.c k)),λ{_ _ vs _ _ _} e h=>by
   match vs,e,h with
   | v::vs,e,h=>
    rw [fe (aD h).1]
    exact sN (((wA1 w t).ok (aD h).2).post λm1 L1 h1=>ih.ok (Nat.succ.inj e) h1)⟩) ts
theorem ah1 {v:V} {f:List V->Prop} (h:ap2 v f):∃ vs,(v=.tup vs∨v=.list vs)∧f vs:=by
 match v,h with
 | .tup vs,h=>exact ⟨vs,.inl rfl,h⟩
 | .list vs,h=>exact ⟨vs,.inr rfl,h⟩
noncomputable def wg (ts:List Expr) (k:Nat) (p:Pos):CA (.Tuple ts k p):=
 ⟨λk=>mA (ts.all pg) (.unp ts.length ((wAs w ts).c k)),λ{G _ _ _ _ _} h=>by
  have h1:=aD h
  refine an (ah1 h1.2) λvs e h2=>?_
  have h3:=bh h2
  have hl:=GR h3.1
  have ab:=jg (env:=G.env) h1.1
  rcases e with rfl | rfl
  ·exact ak8 ((wAs w ts).ok hl h3.2) hl ab.1 ab.2
  ·exact ahp ((wAs w ts).ok hl h3.2) hl ab.1 ab.2⟩
noncomputable def wA (t:Expr):CA t:=
 match t with
 | .Tuple ts k p=>wg w ts k p
 | t=>wA1 w t
theorem wh {c:Cx} {n:Nat} {env:Env} {L:ah} {X:ac} {N:a8}:∀ {xs:List Str} {vs:List V} {m:Loc},ajr env xs vs m (λm=>N m L)->tO c env n m (xs.map λx=>Ij env x) vs L N X
 | [],[],_,h=>vo h
 | _::_,_::_,_,h=>sN (agz (bh h).1 (wh (bh h).2))
 | [],_::_,_,h=>DW h
 | _::_,[],_,h=>DW h
noncomputable def qI (e:Expr):Bool:=!kin [8,9,10] e
theorem eN {env:Env} {t v:Expr} {line:Nat} (h:qI v=true):DM [t] v line env=pure false:=by
 match v,h with
 | v,h=>cases v <;> first | rfl | cases h
noncomputable def aqi (x:Str) (q:Pos) (v:Expr) (p:Pos):CS (.Assign [.Name x q] v p):=
 ⟨λk=>mA (qI v) ((w.E v).c (.sto x k)),λh=>iH (((w.E v).ok (aD h).2).post λu L1 h1=>(wA1 w (.Name x q)).ok h1) rfl (eN (aD h).1) rfl⟩
noncomputable def aqj (o:Expr) (x:Str) (q:Pos) (v:Expr) (p:Pos):CS (.Assign [.Attribute o x q] v p):=
 ⟨λk=>mA (qI v) ((w.E v).c ((wA1 w (.Attribute o x q)).c k)),λh=>iH (((w.E v).ok (aD h).2).post λu L1 h1=>(wA1 w (.Attribute o x q)).ok h1) rfl (eN (aD h).1) rfl⟩
noncomputable def as6 (o i:Expr) (q:Pos) (v:Expr) (p:Pos):CS (.Assign [.Subscript o i q] v p):=
 ⟨λk=>mA (qI v) ((w.E v).c ((wA1 w (.Subscript o i q)).c k)),λh=>iH (((w.E v).ok (aD h).2).post λu L1 h1=>(wA1 w (.Subscript o i q)).ok h1) rfl (eN (aD h).1) rfl⟩
theorem amd {G:Gx} {k:aW} {u:V} {names:List Str} {s:List Sv} {m:Loc} {L:ah} (h:run (.swB k) G (.v u::.ns names::s) m L):∃ us,u=.tup us∧us.length=names.length∧tO G.c G.env G.n m (names.reverse.map λx=>Ij G.env x) us.reverse L (λm L=>run k G s m L) G.X:=by
 show(ec h λus a b h1=>?_,⟨us,a,b,wh h1⟩)
noncomputable def sTT (ts:List Expr) (a:Nat) (q:Pos) (v:Expr) (p:Pos):CS (.Assign [.Tuple ts a q] v p):=
 ⟨λk=>mA (qI v) (.sw (.Tuple ts a q) v ((w.E v).c ((wg w ts a q).c k)) ((w.E v).c (.swB k))),λh=>by
  have hp:=(aD h).1
  rcases (aD h).2 with ⟨h3,h4⟩ | ⟨names,h3,h4⟩
  ·exact iH (((w.E v).ok h4).post λu L1 h1=>(wg w ts a q).ok h1) rfl (eN hp) h3
  ·exact tP (((w.E v).ok h4).post λu L1 h5=>amd h5) h3 (eN hp)⟩
theorem yp {env:Env} {ts:List Expr} {a:Nat} {q:Pos} {v:Expr} (h:(!ajs v)=true):Dg [.Tuple ts a q] v env=pure none:=by
 match v,h with
 | v,h=>cases v <;> first | rfl | cases h
theorem aef {env:Env} {ts:List Expr} {a:Nat} {q:Pos} {v:Expr} {line:Nat}:DM [.Tuple ts a q] v line env=pure false:=by cases v <;> rfl
noncomputable def as7 (ts:List Expr) (a:Nat) (q:Pos) (v:Expr) (p:Pos):CS (.Assign [.Tuple ts a q] v p):=
 match v with
 | .Tuple es b r=>sTT w ts a q (.Tuple es b r) p
 | v=>⟨λk=>mA (!ajs v) ((w.E v).c ((wg w ts a q).c k)),λh=>iH (((w.E v).ok (aD h).2).post λu L1 h1=>(wg w ts a q).ok h1) rfl aef (yp (aD h).1)⟩
noncomputable def sLC (x:Str) (q:Pos) (elt:Expr) (g:FI) (sc:Scope) (lp p:Pos):CS (.Assign [.Name x q] (.ListComp elt [g] sc lp) p):=
 match g with
 | ⟨tg,it,ifs,as⟩=>⟨λk=>mA (as==0&&!qH it) (.asl (.ListComp elt [⟨tg,it,ifs,as⟩] sc lp) (.Name x q) p.line (.chk (λenv=>jb tg sc env&&gx env x) ((uD w tg it).c (.lc tg sc (zb w ifs elt) (.sto x k))))),λh=>by
  have h1:=(aD h).1
  rw [Al,beq_iff_eq,Bm] at h1
  refine bS h1 λh0 h3=>?_
  subst h0
  refine bS ((aD h).2) λh4 h5=>?_
  have h2:=bh h5
  have h6:=h2.1
  rw [Al] at h6
  exact xY (((uD w tg it).ok h2.2).post λl L1 ⟨f,a,b,d⟩=>⟨f,a,wf w b,(bh d).2⟩) h6.1 h6.2 h4 (nY h3)⟩
noncomputable def aqk (e:Expr) (p:Pos):CS (.Expr e p):=
 match e with
 | .Call f a k q=>⟨λc=>.chk (λenv=>!Ey env) ((w.E (.Call f a k q)).c (.popc c)),λh=>by
  have h1:=bh h
  have h2:=h1.1
  rw [Bm] at h2
  exact agw ((w.E _).ok h1.2) h2 rfl⟩
 | _=>noS _
noncomputable def refOf (f:Ae):Option Addr:=match f with
 | .ref C=>some C
 | _=>none
theorem wi {f:Ae} {C:Addr} (h:refOf f=some C):f=.ref C:=by
 cases f with
 | ref=>cases h;rfl
 | _=>cases h
theorem ame {C:Addr} {j:Nat} {G:Gx} {s:List Sv} {m:Loc} {L:ah} (h:run (.rs C j) G s m L):nX j s [] λvs O=>∃ msg,vs=[.str msg]∧G.X C L:=h
noncomputable def amf (x:Str) (np:Pos) (args:List Expr) (cp p:Pos):CS (.Raise (some (.Call (.Name x np) args [] cp)) none p):=
 ⟨λO=>.rs0 (mA (noStar args&&!(x=="__debug__")) (.chk (λenv=>env.kindOf x==some .globalImplicit) (onC ((oU x.cps.size).lookup x) λf=>onC (refOf f) λC=>mA (dk.contains C) ((yn w args).c (.rs C args.length))))),λh=>by
  have h0:=And.left h
  have h1:=aD (And.right h)
  have h2:=h1.1
  rw [Al,Bm] at h2
  have h3:=bh h1.2
  show[an (qG h3.2) λf e1 h4=>?_,an (qG h4) λC e2 h5=>?_]
  have h6:=aD h5
  rw [wi e2] at e1
  exact ahx (eq_of_beq h3.1) (λP=>(z7 e1 P).1) h6.1 (((yn w args).ok h2.1 h6.2).post λvs L1 h7=>gJ (ame h7.1) h7.2) h0 (eM h2.1) h2.2⟩
noncomputable def as8 (t it:Expr) (body:List Stmt) (p:Pos):CS (.For t it body [] p):=
 ⟨λk=>mA (!qH it) ((zc w t it).c (.forL ((wA w t).c ((wSs w body).c .cont)) k)),λh=>by
  have h1:=aD h
  have h2:=h1.1
  rw [Bm] at h2
  exact aoq (((zc w t it).ok h1.2).post λl L1 ⟨J,a,b,d⟩=>⟨J,a,λi x m1 L2 hx hJ=>((wA w t).ok (b i x m1 L2 hx hJ)).post λm2 L3 h2=>(wSs w body).ok h2,d⟩) (nY h2)⟩
noncomputable def amg (t:Expr) (body:List Stmt) (p:Pos):CS (.While t body [] p):=
 ⟨λk=>.whl ((w.B t).c (.br ((wSs w body).c .cont) .done)) k,λ⟨J,j,a,b⟩=>ag0 J (λj m1 L1 hJ=>((w.B t).ok (b j m1 L1 hJ)).post λb L2 h3=>dZ h3 (wSs w body).ok id) j a⟩
noncomputable def as9 (e:Expr) (pe:Pos) (x:Str) (np:Pos) (b:Stmt) (hp p:Pos):CS (.Try [.Expr e pe] [.ExceptHandler (some (.Name x np)) none [b] hp] [] [] p):=
 match e with
 | .Call f a k q=>⟨λc=>mA (!(x=="__debug__")) (.chk (λenv=>!Ey env&&env.kindOf x==some .globalImplicit) (onC ((oU x.cps.size).lookup x) λf'=>onC (refOf f') λC=>.tr C b ((w.E (.Call f a k q)).c (.popc .done)) c)),λ{G c s _ _} h=>by
  have h1:=aD h
  have h2:=h1.1
  rw [Bm] at h2
  have h3:=bh h1.2
  have h4:=h3.1
  rw [Al,Bm,beq_iff_eq] at h4
  show[an (qG h3.2) λf e1 h5=>?_,an (qG h5) λC e2 h6=>?_,bS h6 λhF h7=>?_]
  rw [wi e2] at e1
  exact apq hF h4.1 rfl h4.2 e1 h2 (bv.mono ((w.E _).ok (G:={ G with X:=λC1 L1=>(∀ P,exmOne (K0 P) (.ref C1) (.ref C)=some true)∧(ym b).f G.env _ L1 (λm L=>run c G s m L) G.R,N:=λm L=>run c G s m L }) h7) (λO O q=>q) λC L1 q=>⟨q.1,(ym b).ok q.2⟩)⟩
 | _=>noS _
noncomputable def aql (t:Stmt):CS t:=
 match t with
 | .Return (some e) _=>⟨λO=>(w.E e).c .ret,λh=>acr ((w.E e).ok h)⟩
 | .Return none _=>⟨λO=>.push .none .ret,λh=>zX h⟩
 | .If t b o _=>⟨λk=>(w.B t).c (.br ((wSs w b).c k) ((wSs w o).c k)),λh=>aph (((w.B t).ok h).post λtb L1 h1=>dZ h1 (wSs w b).ok (wSs w o).ok)⟩
 | .Expr e p=>aqk w e p
 | .Continue _=>⟨λO=>.cont,λh=>ak6 h⟩
 | .Pass _=>⟨λk=>k,λh=>ak7 h⟩
 | .Assign [.Name x q] (.ListComp elt [g] sc lp) p=>sLC w x q elt g sc lp p
 | .Assign [.Name x q] v p=>aqi w x q v p
 | .Assign [.Attribute o x q] v p=>aqj w o x q v p
 | .Assign [.Subscript o i q] v p=>as6 w o i q v p
 | .Assign [.Tuple ts a q] v p=>as7 w ts a q v p
 | .Raise (some (.Call (.Name x np) args [] cp)) none p=>amf w x np args cp p
 | .Try [.Expr e pe] [.ExceptHandler (some (.Name x np)) none [b] hp] [] [] p=>as9 w e pe x np b hp p
 | .For t it body [] p=>as8 w t it body p
 | .While t body [] p=>amg w t body p
 | _=>noS _
end
noncomputable def wp (k:Nat):WP:=@Nat.rec (λO=>WP) ⟨noE,noB,noS⟩ (λO w=>⟨aqf w,aqh w,aql w⟩) k
section
variable {c:Cx} {n:Nat} {env:Env} {ss:List Stmt} {m:Loc} {L:ah} {X:ac} {N:a8} {R:ad} {K:a8}
theorem aa (k:Nat) (h:let G:Gx:=⟨c,n,env,X,N,R,K⟩;aea 2000 ((wSs (wp k) ss).c .done) G [] m L):fD c env n m (Cw ss env) L N R K X:=by
 rw [uC] at h
 exact (wSs (wp k) ss).ok (G:=⟨c,n,env,X,N,R,K⟩) (k:=.done) (s:=[]) h
theorem aeg {w:WP} {M:a8} {l2:List Stmt} (h2:∀ m1 L1,M m1 L1->fD c env n m1 (Cw l2 env) L1 N R K X):∀ {l1:List Stmt} {m:Loc} {L:ah},run ((wSs w l1).c .done) ⟨c,n,env,X,M,R,K⟩ [] m L->fD c env n m (Cw (l1++l2) env) L N R K X
 | [],m,L,h=>h2 m L h
 | s::r,m,L,h=>aji (((w.S s).ok (G:=⟨c,n,env,X,M,R,K⟩) h).mono (λm' L' h1=>aeg h2 h1) (λO O x=>x) (λO O x=>x) λO O x=>x)
theorem nZ (k j:Nat) (M:a8) (h:let G:Gx:=⟨c,n,env,X,M,R,K⟩;aea 2000 ((wSs (wp k) (ss.take j)).c .done) G [] m L) (h2:∀ m1 L1,M m1 L1->fD c env n m1 (Cw (ss.drop j) env) L1 N R K X):fD c env n m (Cw ss env) L N R K X:=by
 rw [uC] at h
 have:=aeg (l2:=ss.drop j) h2 h
 rwa [Bg] at this
theorem lE (n a b:Nat) (h:D7 a b=true):n+a≤n+b:=BK (Bq h) n
end
theorem sr {l:List V} {T Z:(V->Option V)->Prop} (f:V->Option V) (hl:l.length≤1000000) (ht:T f) (hq:Z f):∃ f,l.length≤1000000∧T f∧Z f:=⟨f,hl,ht,hq⟩
theorem ph {c:Cx} {v:V} {l:List V} {L:ah} {K:List V->Prop} (h:rH c v l L) (k:K l):∃ l,rH c v l L∧K l:=⟨l,h,k⟩
theorem aU {c:Cx} {L:ah} {v:V} {x:Str} {K:Ae->Prop} {f:Ae} (hm:cP c L v x f) (h:K f):yl c L v x K:=⟨f,hm,h⟩
theorem exL {α:Type} {A:α->Prop} (a:α) (h:let a':=a;A a'):∃ a,A a:=⟨a,h⟩
theorem cQ {p:Prop} [Decidable p] {A B:Prop} (h:¬ p) (hb:B):bZ (decide p) A B:=fE (decide_eq_false h) hb
theorem d0 {p:Prop} [Decidable p] {A B:Prop} (h:p) (ha:A):bZ (decide p) A B:=um (decide_eq_true h) ha
theorem xk {A B:Prop} (h:A):A∨B:=.inl h
theorem oY {A B:Prop} (h:B):A∨B:=.inr h
section
variable {c:Cx} {n:Nat} {L:ah} {Q:ad} {X:ac}
theorem kq {v u:V} (e:v=u) (k:Q u L):Q v L:=e▸k
theorem ae.val {f:Ae} {vs:List V} {u:V} (h:ae c n f vs L (λv L'=>L'=L∧v=u) (λO O=>False)) (q:Q u L):ae c n f vs L Q X:=
 h.mono (λv L' x=>by refine bS x ?_;clear x;intro q1' q2';subst q1';subst q2';exact q) (λO O x=>x.elim) (AL _)
theorem ae.use0 {f:Ae} {vs:List V} {Q0:ad} (h:ae c n f vs L Q0 (λO O=>False)) (q:∀ v L',Q0 v L'->Q v L'):ae c n f vs L Q X:=
 h.mono q (λO O x=>x.elim) (AL _)
theorem ae.useL {f:Ae} {vs:List V} {Q0:ad} (h:ae c n f vs L Q0 (λO O=>False)) (q:let Q':=Q;∀ v L',Q0 v L'->Q' v L'):ae c n f vs L Q X:=h.use0 q
theorem uG {x:Str} {l:List V} {ys:List Str} (e:l=ys.map .str) (hz:(ys.map (·.length)).sum+ys.length * x.length≤16777216) (h:Q (.str (Iw x ys)) L):ae c n (.builtin "str.join") [.str x,.list l] L Q X:=e▸alu hz h
theorem qJ {l:List V} {ns:List Int} (e:l=ns.map .int) (hr:∀ k∈ns,0≤k∧k <256) (hz:ns.length≤1000000) (h:Q (.bytes (ns.map λk=>k.toNat.toUInt8)) L):ae c n (.type "bytes") [.list l] L Q X:=e▸ahc hr hz h
theorem yq {l:List V} {bs:List Bool} (e:l=bs.map .bool) (h:Q (.bool (bs.all id)) L):ae c n (.builtin "all") [.list l] L Q X:=e▸apf h
end
section
variable {c:Cx} {n:Nat} {L:ah}
noncomputable def aJ (x:Int) (k:Nat):List UInt8:=(CG k).map λi=>((x / 2 ^ (8 * i)) % 256).toNat.toUInt8
noncomputable def iz:List UInt8->Int
 | []=>0
 | b::l=>b.toNat+256 * iz l
theorem aeh (i:Nat):(8 * (i:Int)).toNat=8 * i:=rfl
theorem ze:∀ b:List UInt8,0≤iz b∧iz b <256 ^ b.length
 | []=>by decide
 | y::b=>by
  have ih:=ze b
  have hy:=y.toNat_lt
  unfold iz
  rw [AJ,Int.pow_succ,EZ _ 256]
  exact ⟨CH (Av _) (Ec (by decide) ih.1),Bv (Int.add_lt_add_right (Int.ofNat_lt.mpr hy) _) (Au (CO (Ha 256 1 (iz b)).symm) (Int.mul_le_mul_of_nonneg_left (Au (CO (BL 1 _)) ih.2) (by decide)))⟩
noncomputable def qK:Nat->List UInt8->List Int
 | _,[]=>[]
 | j,y::l=>(y.toNat:Int) * 2 ^ (8 * j)::qK (j+1) l
theorem sZ:∀ (b:List UInt8) (j:Nat),(∀ k∈qK j b,0≤k)∧(qK j b).sum=2 ^ (8 * j) * iz b
 | [],j=>by simp [qK,iz]
 | y::b,j=>by
  refine bS (sZ b (j+1)) λh1 h2=>?_
  have hp:(0:Int)≤2 ^ (8 * j):=by
   exact Bf (Int.pow_pos (by decide))
  refine ⟨λk hk=>?_,?_⟩
  ·rcases List.mem_cons.mp hk with rfl | hk
   ·exact Ec (Av _) hp
   ·exact h1 k hk
  ·show (y.toNat:Int) * 2 ^ (8 * j)+(qK (j+1) b).sum=2 ^ (8 * j) * (y.toNat+256 * iz b)
   rw [h2,show 8 * (j+1)=8 * j+8 from rfl,Int.pow_add,Ha,EZ (y.toNat:Int),Int.mul_assoc,show (2:Int) ^ 8=256 by decide]
theorem aay {b:List UInt8} {v:V}:∀ {j:Nat},v∈ml j b->∃ (i:Nat) (x:UInt8),i <j+b.length∧v=.tup [.int i,.int x.toNat]:=by
 induction b with
 | nil=>intro j h;cases h
 | cons y b ih=>
  intro j h
  rcases List.mem_cons.mp h with rfl | h
  ·exact ⟨j,y,by simp,rfl⟩
  ·show(oq (ih h) λi x hi e=>?_,⟨i,x,by rw [AJ,← Nat.add_assoc,CJ];exact hi,e⟩)
theorem wj {x k:Int} (h0:0≤x) (hk:0 <k) (hk2:k≤8) (hx:x <256 ^ k.toNat) {Q:ad} {X:ac} (kk:Q (.bytes (aJ x k.toNat)) L):ae c (n+1) (.ref 204) [.int x,.int k] L Q X:=by
 have k0:0≤k:=Bf hk
 have k9:k≤1000:=Au hk2 (by decide)
 have kN:k.toNat≤8:=Int.toNat_le.mpr hk2
 have kM:k.toNat≤1000000:=Ai kN (by decide)
 refine (pY λa=>@aa _ _ _ _ _ _ _ _ _ _ 12 ?_).fn
 intro GL
 show[d0 h0,yZ hk k9 (by decide) (by decide),fE (b:=!decide (x <256 ^ k.toNat)) (by rw [decide_eq_true hx];rfl),Am k (Ah rfl (Ah k0 (Ah (Au k9 (by decide)) ?_))),sr (λv=>some (.int (x / 2 ^ (8 * v.i).toNat % 256))) (by rw [lj];exact kM) (λC D o v hv=>?_) ?_]
 ·refine an (x8 hv) λi hi q1'=>?_
  subst q1'
  show(l7 (cr (by decide)),aou (Ec (by decide) (Av i)),ac4 ⟨rfl,rfl⟩)
 ·refine qJ (ns:=(CG k.toNat).map λi:Nat=>x / 2 ^ (8 * i) % 256) ?_ (λj hj=>?_) (by rw [Af,Ba];exact kM) (kq (by rw [Aw];rfl) kk)
  ·unfold bN
   rw [c6,Aw,Aw]
   refine By λi O=>?_
   show V.int (x / 2 ^ (8 * (i:Int)).toNat % 256)=V.int (x / 2 ^ (8 * i) % 256)
   rw [aeh]
  ·refine an (List.mem_map.mp hj) λi O q1'=>?_
   subst q1'
   exact ⟨Bh _ (by decide),AW _ (by decide)⟩
theorem yr:∀ (l:List UInt8) (j:Nat),(ml j l).map (λv=>V.int ((v.t.getD 1 .none).i * 2 ^ (8 * (v.t.getD 0 .none).i).toNat))=(qK j l).map V.int:=by
 intro l
 induction l with
 | nil=>intro j;rfl
 | cons y l ih=>
  intro j
  show V.int ((y.toNat:Int) * 2 ^ (8 * (j:Int)).toNat)::(ml (j+1) l).map _=_::(qK (j+1) l).map _
  rw [ih,aeh]
theorem oz {b:List UInt8} (hb:b.length≤8) (hn:iz b <2 ^ 63) {Q:ad} {X:ac} (kk:Q (.int (iz b)) L):ae c (n+1) (.ref 199) [.bytes b] L Q X:=by
 refine (pX λa=>@aa _ _ _ _ _ _ _ _ _ _ 12 ?_).fn
 intro GL
 show[Am b (Ah rfl ?_),sr (λv=>some (.int ((v.t.getD 1 .none).i * 2 ^ (8 * (v.t.getD 0 .none).i).toNat))) (by rw [nQ];exact Ai hb (by decide)) (λC D o v hv=>?_) ?_]
 ·refine oq (aay hv) λi x hi q1'=>?_
  subst q1'
  have i8:i <8:=B1 (by rw [C9] at hi;exact hi) hb
  show(l7 (cr (by decide)),aov (Ec (by decide) (Av i)) (by lia) (by have:=x.toNat_lt;lia) ⟨rfl,rfl⟩)
 ·rw [c6,yr]
  refine bS (sZ b 0) λp1 p2=>?_
  rw [Nat.mul_zero,Int.pow_zero,Int.one_mul] at p2
  exact apg p1 (by rw [p2];exact hn) (kq (by rw [p2]) kk)
end
section
variable {c:Cx} {n:Nat} {L:ah}
noncomputable def bA (x:Str):List UInt8:=x.cps.toList.map λk=>k.toUInt8
noncomputable def jI (x:Str):Prop:=(∀ k∈x.cps.toList,32≤k∧k <127)∧x.cps.toList.length≤1000
noncomputable def aqm:V->Int
 | .str x=>(x.cps.toList.headD 0:Nat)
 | _=>0
theorem s7 {x:Str} {v:V} (h:v∈gI x):∃ k∈x.cps.toList,v=.str ⟨#[k]⟩:=by
 refine an (List.mem_map.mp h) λk hk q1'=>?_
 subst q1'
 exact ⟨k,hk,rfl⟩
noncomputable def pts (x:Str):List Int:=x.cps.toList.map λ(k:Nat)=>Int.ofNat k
theorem aaz (x:Str):(gI x).filterMap (λv=>some (V.int (aqm v)))=(pts x).map V.int:=by
 unfold gI pts
 rw [c6,Aw,Aw]
 rfl
theorem aei (l:List Int) (f:V->V) (hf:∀ k∈l,f (.int k)=.bool true):(l.map V.int).filterMap (λv=>some (f v))=(l.map λO=>true).map V.bool:=by
 rw [c6,Aw,Aw]
 exact By λk hk=>hf k hk
theorem qL {α:Type} (l:List α):(l.map λO=>true).all id=true:=by
 induction l with
 | nil=>rfl
 | cons a l ih=>exact ih
theorem fw {x:Str} (hx:jI x) {Q:ad} {X:ac} (kk:Q (.bytes (bA x)) L):ae c (n+1) (.ref 209) [.str x] L Q X:=by
 have hl:(pts x).length=x.cps.toList.length:=Af ..
 have hl1:(pts x).length≤1000000:=Ai (hl▸hx.2) (by decide)
 have hp:∀ k∈pts x,32≤k∧k <127:=λk hk=>by
  refine an (List.mem_map.mp hk) λj hj q1'=>?_
  subst q1'
  exact ⟨Int.ofNat_le.mpr (hx.1 j hj).1,Int.ofNat_lt.mpr (hx.1 j hj).2⟩
 refine (m6 λa=>@aa _ _ _ _ _ _ _ _ _ _ 12 ?_).fn
 intro GL
 show[Ah rfl,ph y6,sr (λv=>some (.int (aqm v))) (by unfold gI;rw [Af,← hl];exact hl1) (λC D o v hv=>?_) ?_]
 ·refine an (s7 hv) λk hk q1'=>?_
  subst q1'
  exact apd ⟨rfl,rfl⟩
 rw [aaz]
 show[ph bn,sr (λv=>some (.bool true)) (by rw [Af];exact hl1) (λC D o v hv=>?_) ?_]
 ·refine an (List.mem_map.mp hv) λk hk q1'=>?_
  subst q1'
  show(um (decide_eq_true (hp k hk).1),⟨rfl,by rw [decide_eq_true (hp k hk).2]⟩)
 show[yq (aei _ _ λO O=>rfl),fE (by rw [qL];rfl),qJ rfl (λk hk=>⟨Au (by decide) (hp k hk).1,Cj (hp k hk).2 (by decide)⟩) hl1 (kq ?_ kk)]
 unfold pts bA
 rw [Aw]
 rfl
end
section
variable {c:Cx} {n:Nat} {L:ah}
noncomputable abbrev jh (b:List UInt8) (i:Int):List (Str × V):=[(Ab "octets",.bytes b),(Ab "at",.int i)]
theorem aej {b:List UInt8} {i:Int} {Q:ad} {X:ac} (kk:∀ x d,Q (.obj x) ((x,.inst 309 d (jh b i))::L)):ae c (n+2) (.ref 309) [.bytes b,.int i] L Q X:=by
 refine b6 rfl λx d=>kH λa=>@aa _ _ _ _ _ _ _ _ _ _ 12 ?_
 intro GL
 show(ak .here rfl,ak .here rfl,⟨rfl,kk x d⟩)
theorem aa0 {b:List UInt8} {Q:ad} {X:ac} (kk:∀ x d,Q (.obj x) ((x,.inst 309 d (jh b 0))::L)):ae c (n+2) (.ref 309) [.bytes b] L Q X:=by
 refine b6 rfl λx d=>m9 λa=>@aa _ _ _ _ _ _ _ _ _ _ 12 ?_
 intro GL
 show(ak .here rfl,ak .here rfl,⟨rfl,kk x d⟩)
theorem amh {x d:Addr} {b:List UInt8} {i:Int} (hm:(x,aj.inst 309 d (jh b i))∈c.R++L) (hb:b.length≤1000000) {Q:ad} {X:ac} (kk:Q (.int (b.length - i)) L):ae c (n+1) (.ref 285) [.obj x] L Q X:=by
 refine (na λa=>@aa _ _ _ _ _ _ _ _ _ _ 12 ?_).fn
 intro GL
 show(aI hm rfl rfl,cJ hb,aI hm rfl rfl,kk)
theorem aek {x d:Addr} {b:List UInt8} {i k:Int} {L₁:ah} (hp:bW L x (aj.inst 309 d (jh b i)) L₁) (hb:b.length≤1000000) (hik:i+k≤b.length) {Q:ad} {X:ac} (kk:Q (.bytes (aC b (some i) (some (i+k)))) ((x,.inst 309 d (jh b (i+k)))::L₁)):ae c (n+2) (.ref 292) [.obj x,.int k] L Q X:=by
 have hm:(x,aj.inst 309 d (jh b i))∈c.R++L:=Aa _ hp.mem
 refine (nc λa=>@aa _ _ _ _ _ _ _ _ _ _ 12 ?_).fn
 intro GL
 show(aU (.inst hm rfl rfl rfl),amh (c:=cxF c iJ a) hm hb,cQ (by lia),aI hm rfl rfl,aI hm rfl rfl,Am i (Ah rfl ?_),aI hm rfl rfl,Am (i+k) (Ah rfl ?_),dE hb,mu,aI hm rfl rfl,ak hp rfl,kk)
noncomputable def aa1 (b:List UInt8):Str:=⟨(b.map (·.toNat)).toArray⟩
theorem s8:∀ (b:List UInt8),Iw ⟨#[]⟩ (b.map λx=>(⟨#[x.toNat]⟩:Str))=aa1 b:=by
 intro b
 unfold Iw
 rw [StrLaws.glued_eq_join]
 induction b with
 | nil=>rfl
 | cons x b ih=>
  cases b with
  | nil=>rfl
  | cons y b=>
   show (⟨#[x.toNat]⟩:Str)++⟨#[]⟩++Str.join ⟨#[]⟩ ((y::b).map λx=>(⟨#[x.toNat]⟩:Str))=_
   rw [ih]
   show (⟨#[x.toNat]++#[]++_⟩:Str)=⟨_⟩
   congr 1
   simp [aa1]
noncomputable def yt (b:List UInt8):Prop:=(∀ x∈b,32≤x.toNat∧x.toNat <127)∧b.length≤1000
theorem su {b:List UInt8} (hb:yt b) {Q:ad} {X:ac} (kk:Q (.str (aa1 b)) L):ae c (n+1) (.ref 214) [.bytes b] L Q X:=by
 have hl:b.length≤1000000:=Ai hb.2 (by decide)
 refine (m7 λa=>@aa _ _ _ _ _ _ _ _ _ _ 12 ?_).fn
 intro GL
 show[ph nO,sr (λv=>some (.bool true)) (by rw [Af];exact hl) (λC D o v hv=>?_) ?_]
 ·refine an (List.mem_map.mp hv) λk hk q1'=>?_
  subst q1'
  have h:=hb.1 k hk
  show(d0 (Int.ofNat_le.mpr h.1),⟨rfl,by rw [decide_eq_true (show (k.toNat:Int) <127 from Int.ofNat_lt.mpr h.2)]⟩)
 show[yq (bs:=b.map λO=>true) (by rw [c6,Aw,Aw];rfl),fE (by rw [qL];rfl),aU .joinS,ph nO,sr (λv=>some (.str ⟨#[v.i.toNat]⟩)) (by rw [Af];exact hl) (λC D o v hv=>?_) ?_]
 ·refine an (List.mem_map.mp hv) λk hk q1'=>?_
  subst q1'
  exact ape (Av _) (Ck (Int.ofNat_lt.mpr k.toNat_lt)) ⟨rfl,rfl⟩
 refine uG (ys:=b.map λx=>(⟨#[x.toNat]⟩:Str)) (by rw [c6,Aw,Aw];rfl) ?_ (kq (by rw [← s8];rfl) kk)
 have e:(b.map λx=>(⟨#[x.toNat]⟩:Str)).map (·.length)=b.map λO=>1:=by rw [Aw];rfl
 rw [e,Jb,Gs,Af]
 have:=hb.2
 show b.length * 1+b.length * 0≤_
 lia
theorem n5 {x d:Addr} {b:List UInt8} {i k:Int} {L₁:ah} (hp:bW L x (aj.inst 309 d (jh b i)) L₁) (hb:b.length≤1000000) (hik:i+k≤b.length) (hz:(aC b (some i) (some (i+k))).length≤8) (hn:iz (aC b (some i) (some (i+k))) <2 ^ 63) {Q:ad} {X:ac} (kk:Q (.int (iz (aC b (some i) (some (i+k))))) ((x,.inst 309 d (jh b (i+k)))::L₁)):ae c (n+3) (.ref 299) [.obj x,.int k] L Q X:=by
 have hm:(x,aj.inst 309 d (jh b i))∈c.R++L:=Aa _ hp.mem
 refine (kI λa=>@aa _ _ _ _ _ _ _ _ _ _ 12 ?_).fn
 intro GL
 show(aU (.inst hm rfl rfl rfl),aek hp hb hik,oz hz hn,kk)
theorem wk {b:List UInt8} {k:Int} (hb:(b.length:Int)≤k) (hk:k≤100000) {Q:ad} {X:ac} (kk:Q (.bytes (b++Bt (k - b.length).toNat 0)) L):ae c (n+1) (.ref 320) [.bytes b,.int k] L Q X:=by
 have hl:b.length≤1000000:=Int.ofNat_le.mp (Au hb (Au hk (by decide)))
 refine (vr λa=>@aa _ _ _ _ _ _ _ _ _ _ 12 ?_).fn
 intro GL
 show(cJ hl,cQ (Int.not_lt.mpr hb),mu,cJ hl,pc (Int.sub_nonneg.mpr hb) (Au (GB _ (Av _)) (Au hk (by decide))),k8 (by rw [BY];exact Int.ofNat_le.mp (by rw [rbn hb];exact Au hk (by decide))) kk)
end
section
variable {c:Cx} {n:Nat} {L:ah}
theorem ah2 {x d:Addr} {b:List UInt8} {i:Int} {L₁:ah} {k:Int} (hp:bW L x (aj.inst 309 d (jh b i)) L₁) (hb:b.length≤1000000) (h1:i+1≤b.length) (hk:iz (aC b (some i) (some (i+1)))=k) (hz:(aC b (some i) (some (i+1))).length≤8) (h2:i+1+k≤b.length) (hk0:k <2 ^ 63)
 (ht:yt (aC b (some (i+1)) (some (i+1+k)))) {Q:ad} {X:ac} (kk:Q (.str (aa1 (aC b (some (i+1)) (some (i+1+k))))) ((x,.inst 309 d (jh b (i+1+k)))::L₁)):ae c (n+4) (.ref 306) [.obj x] L Q X:=by
 have hm:(x,aj.inst 309 d (jh b i))∈c.R++L:=Aa _ hp.mem
 subst hk
 refine (nq λa=>@aa _ _ _ _ _ _ _ _ _ _ 12 ?_).fn
 intro GL
 show(aU (.inst hm rfl rfl rfl),aU (.inst hm rfl rfl rfl),n5 hp hb h1 hz hk0,(aek .here hb h2 ?_).le (Br _),(su ht ?_).le (Bz 1 (n+2)),kk)
theorem jJ {k:Int} (hk:k.natAbs <2 ^ 20) {Q:ad} {X:ac} (kk:Q (.int ((k * 2654435761+40503) % 4294967296)) L):ae c (n+1) (.ref 341) [.int k] L Q X:=by
 refine (tX λa=>@aa _ _ _ _ _ _ _ _ _ _ 12 ?_).fn
 intro GL
 show(l7 (cr hk),yZ (by decide) (by decide) (by decide) (by decide),c5 (by decide) kk)
theorem aa2 {b:List UInt8} (hb:b.length≤1000000) (h0:0 <b.length) (h1:(b.getD 0 0).toNat=1) {Q:ad} {X:ac} (kk:Q (.int 1) L):ae c (n+1) (.ref 404) [.bytes b] L Q X:=by
 have e:((b.getD (0:Int).toNat 0).toNat:Int)=1:=by rw [show (0:Int).toNat=0 from rfl,h1];rfl
 refine (tY λa=>@aa _ _ _ _ _ _ _ _ _ _ 12 ?_).fn
 intro GL
 show[y3 hb (by decide) (Int.ofNat_lt.mpr h0)]
 rw [e]
 show[x9 (ns:=[1,2]) rfl,y3 hb (by decide) (Int.ofNat_lt.mpr h0)]
 rw [e]
 exact kk
end
section
variable {c:Cx} {n:Nat} {L:ah}
theorem ael:Ab "/"=⟨#[47]⟩:=by kernel_rfl
structure dH (x:Str):Prop where
 pr:∀ k∈x.cps.toList,32≤k∧k <127∧k≠47
 lo:1≤x.length
 hi:x.length≤28
 ne:[Ab ".",Ab ".."].any (·==x)=false
theorem hY {x:Str} (hx:dH x) {Q:ad} {X:ac} (kk:Q (.bool true) L):ae c (n+1) (.ref 576) [.str x] L Q X:=by
 have hl:x.length≤1000000:=Ai hx.hi (by decide)
 refine (kJ λa=>@aa _ _ _ _ _ _ _ _ _ _ 12 ?_).fn
 intro GL
 show[apc hl,d0 (Int.ofNat_le.mpr hx.lo),fE (b:=!decide ((x.length:Int)≤28)) (by rw [decide_eq_true (show (x.length:Int)≤28 from Int.ofNat_le.mpr hx.hi)];rfl),aO (ns:=[Ab ".",Ab ".."]) rfl,fE hx.ne,ph y6,sr (λv=>some (.bool true)) (by unfold gI;rw [Af];exact hl) (λC D o v hv=>?_) ?_]
 ·refine an (s7 hv) λk hk q1'=>?_
  subst q1'
  have h:=hx.pr k hk
  show[apd,d0 (Int.ofNat_le.mpr h.1),d0 (show (k:Int) <127 from Int.ofNat_lt.mpr h.2.1),⟨rfl,?_⟩]
  rw [ael,decide_eq_false (show ¬ (⟨#[k]⟩:Str)=⟨#[47]⟩ from λq=>h.2.2 (by cases q;rfl))]
  rfl
 exact yq (bs:=x.cps.toList.map λO=>true) (by unfold gI;rw [c6,Aw,Aw];rfl) (kq (by rw [qL]) kk)
end
section
variable {c:Cx} {n:Nat} {L:ah}
noncomputable abbrev snk (x d a:Addr) (b:List UInt8) (L:ah):ah:=(x,.inst 259 d [(Ab "octets",.obj a)])::(a,.barr b)::L
theorem wm {p q:Addr × aj} {L:ah}:(p::q::L).Perm (q::p::L):=.swap q p L
theorem aen {Q:ad} {X:ac} (kk:∀ x d a,Q (.obj x) (snk x d a [] L)):ae c (n+2) (.ref 259) [] L Q X:=by
 refine b6 rfl λx d=>p5 λa=>@aa _ _ _ _ _ _ _ _ _ _ 12 ?_
 intro GL
 show(ahh λa=>?_,ak (.there .here) rfl,⟨rfl,kk x d a⟩)
theorem bQ {x:Int} {k:Nat}:(aJ x k).length=k:=by unfold aJ;rw [Af,Ba]
theorem a9 {x d a:Addr} {b:List UInt8} {i k:Int} (h0:0≤i) (hk:0 <k) (hk2:k≤8) (hx:i <256 ^ k.toNat) (hb:b.length≤10000) {Q:ad} {X:ac} (kk:Q .none (snk x d a (b++aJ i k.toNat) L)):ae c (n+2) (.ref 235) [.obj x,.int i,.int k] (snk x d a b L) Q X:=by
 refine ae.norm (m8 λa'=>@aa _ _ _ _ _ _ _ _ _ _ 12 ?_).fn
 intro GL
 show(aI (Aa _ (.head _)) rfl rfl,aU (.bExt (Aa _ (.tail _ (.head _)))),wj h0 hk hk2 hx,sV (.there .here) (by rw [bQ];lia),⟨_,.of wm,kk⟩)
theorem bH {x:Str}:(bA x).length=x.cps.toList.length:=by unfold bA;rw [Af]
theorem aa3 {x d a:Addr} {b:List UInt8} {s:Str} (hs:jI s) (hl:s.cps.toList.length <256) (hb:b.length≤9000) {Q:ad} {X:ac} (kk:Q .none (snk x d a (b++aJ s.cps.toList.length 1++bA s) L)):ae c (n+3) (.ref 249) [.obj x,.str s] (snk x d a b L) Q X:=by
 refine ae.norm (p8 λa'=>@aa _ _ _ _ _ _ _ _ _ _ 12 ?_).fn
 intro GL
 show[(fw hs ?_).le (Bz 1 (n+1)),aU (.inst (Aa _ (.head _)) rfl rfl rfl),cJ (by rw [bH];lia)]
 rw [bH]
 show(a9 (k:=1) (Av _) (by decide) (by decide) (Int.ofNat_lt.mpr hl) (by lia),aI (Aa _ (.head _)) rfl rfl,aU (.bExt (Aa _ (.tail _ (.head _)))),sV (.there .here) (by rw [As,bQ,bH];show _+1+_≤_;lia),⟨_,.of wm,kk⟩)
theorem qM {x d a:Addr} {b:List UInt8} (hb:b.length≤10000) {Q:ad} {X:ac} (kk:Q (.bytes b) L):ae c (n+1) (.ref 256) [.obj x] (snk x d a b L) Q X:=by
 refine ae.norm (oF λa'=>@aa _ _ _ _ _ _ _ _ _ _ 12 ?_).fn
 intro GL
 show(aI (Aa _ (.head _)) rfl rfl,adl (Aa _ (.tail _ (.head _))) (by lia),⟨L,⟨[_,_],.refl _⟩,kk⟩)
end
theorem aa4 (x:Int) (k:Nat):aJ x (k+1)=(x % 256).toNat.toUInt8::aJ (x / 256) k:=by
 unfold aJ
 rw [List.range_succ_eq_map,A0,Aw]
 congr 1
 ·simp
 ·refine By λi O=>?_
  show ((x / 2 ^ (8 * (i+1))) % 256).toNat.toUInt8=((x / 256 / 2 ^ (8 * i)) % 256).toNat.toUInt8
  rw [Int.ediv_ediv_of_nonneg (by decide),show (256:Int) * 2 ^ (8 * i)=2 ^ (8 * (i+1)) from by rw [Ib,Int.pow_add,EZ];rfl]
theorem ata {x:Int} (h0:0≤x) (h1:x <256):(x.toNat.toUInt8.toNat:Int)=x:=by
 rw [show x.toNat.toUInt8.toNat=x.toNat % 256 from rfl,Int.natCast_emod,ES h0];exact Fv h0 h1
theorem cU:∀ (k:Nat) (x:Int),0≤x->x <256 ^ k->iz (aJ x k)=x
 | 0,x,h0,h1=>by have h1:x <1:=h1;show (0:Int)=x;lia
 | k+1,x,h0,h1=>by
  rw [aa4]
  show ((x % 256).toNat.toUInt8.toNat:Int)+256 * iz (aJ (x / 256) k)=x
  have h2:x / 256 <256 ^ k:=by
   show[Int.ediv_lt_of_lt_mul (by decide)]
   rwa [Int.pow_succ] at h1
  rw [cU k _ (EM h0 (by decide)) h2,ata (Bh _ (by decide)) (AW _ (by decide))]
  exact Int.emod_add_mul_ediv x 256
structure Zn where
 sort:Int
 mode:Int
 size:Int
 links:Int
 parent:Int
 made:Int
 changed:Int
structure cf (z:Zn):Prop where
 sort:0≤z.sort∧z.sort≤2
 mode:0≤z.mode∧z.mode <65536
 size:0≤z.size∧z.size <4294967296
 links:0≤z.links∧z.links <65536
 parent:0≤z.parent∧z.parent <4294967296
 made:0≤z.made∧z.made <4294967296
 changed:0≤z.changed∧z.changed <4294967296
noncomputable abbrev eO (z:Zn):List (Str × V):=[(Ab "sort",.int z.sort),(Ab "mode",.int z.mode),(Ab "size",.int z.size),(Ab "links",.int z.links),(Ab "parent",.int z.parent),(Ab "made",.int z.made),(Ab "changed",.int z.changed)]
noncomputable def bO (z:Zn):List UInt8:=[]++aJ z.sort 1++aJ z.mode 2++aJ z.size 4++aJ z.links 2++aJ z.parent 4++aJ z.made 4++aJ z.changed 4
theorem ji (z:Zn):(bO z).length=21:=rfl
section
variable {c:Cx} {n:Nat} {L:ah}
theorem pn {z:Zn} {Q:ad} {X:ac} (kk:∀ x d,Q (.obj x) ((x,.inst 640 d (eO z))::L)):ae c (n+2) (.ref 640) [.int z.sort,.int z.mode,.int z.size,.int z.links,.int z.parent,.int z.made,.int z.changed] L Q X:=by
 refine b6 rfl λx d=>oK λa=>@aa _ _ _ _ _ _ _ _ _ _ 12 ?_
 intro GL
 show(ak .here rfl,ak .here rfl,ak .here rfl,ak .here rfl,ak .here rfl,ak .here rfl,ak .here rfl,⟨rfl,kk x d⟩)
theorem atb {p q r:Addr × aj} {R L:ah} (h:p∈R++L):p∈R++(q::r::L):=(List.mem_append.mp h).elim (Ag _) λh=>Aa _ (.tail _ (.tail _ h))
theorem bC {p q:Addr × aj} {R L:ah} (h:p∈R++L):p∈R++(q::L):=(List.mem_append.mp h).elim (Ag _) λh=>Aa _ (.tail _ h)
theorem jj {z:Zn} {x d:Addr} (hz:cf z) (hm:(x,aj.inst 640 d (eO z))∈c.R++L) {Q:ad} {X:ac} (kk:Q (.bytes (bO z)) L):ae c (n+4) (.ref 651) [.obj x] L Q X:=by
 refine (lS λa=>@aa _ _ _ _ _ _ _ _ _ _ 12 ?_).fn
 intro GL
 refine aen λsx sd sa=>?_
 have hm2:∀ b,(x,aj.inst 640 d (eO z))∈c.R++snk sx sd sa b L:=λb=>atb hm
 have l2:n+2≤n+3:=Br _
 show(aU (.inst (Aa _ (.head _)) rfl rfl rfl),aI (hm2 _) rfl rfl,(a9 (k:=1) hz.sort.1 (by decide) (by decide) (Az hz.sort.2 (by decide)) (by decide) ?_).le l2,aU (.inst (Aa _ (.head _)) rfl rfl rfl),aI (hm2 _) rfl rfl,(a9 (k:=2) hz.mode.1 (by decide) (by decide) hz.mode.2 (by show 1≤_;decide) ?_).le l2,aU (.inst (Aa _ (.head _)) rfl rfl rfl),aI (hm2 _) rfl rfl,(a9 (k:=4) hz.size.1 (by decide) (by decide) hz.size.2 (by show 3≤_;decide) ?_).le l2,aU (.inst (Aa _ (.head _)) rfl rfl rfl),aI (hm2 _) rfl rfl,(a9 (k:=2) hz.links.1 (by decide) (by decide) hz.links.2 (by show 7≤_;decide) ?_).le l2,aU (.inst (Aa _ (.head _)) rfl rfl rfl),aI (hm2 _) rfl rfl,(a9 (k:=4) hz.parent.1 (by decide) (by decide) hz.parent.2 (by show 9≤_;decide) ?_).le l2,aU (.inst (Aa _ (.head _)) rfl rfl rfl),aI (hm2 _) rfl rfl,(a9 (k:=4) hz.made.1 (by decide) (by decide) hz.made.2 (by show 13≤_;decide) ?_).le l2,aU (.inst (Aa _ (.head _)) rfl rfl rfl),aI (hm2 _) rfl rfl,(a9 (k:=4) hz.changed.1 (by decide) (by decide) hz.changed.2 (by show 17≤_;decide) ?_).le l2,aU (.inst (Aa _ (.head _)) rfl rfl rfl),(qM (by show 21≤_;decide) kk).le (Bz _ _))
theorem aqn {b:List UInt8} (h:b.length≤4):iz b <2 ^ 63:=by
 have:=(ze b).2
 generalize b.length=m at this h
 match m,h with
 | 0,_=>exact Cj this (by decide)
 | 1,_=>exact Cj this (by decide)
 | 2,_=>exact Cj this (by decide)
 | 3,_=>exact Cj this (by decide)
 | 4,_=>exact Cj this (by decide)
 | k+5,h=>exact absurd h (by lia)
theorem neF {a b:Int} (h:a=b):decide (a≠b)=false:=decide_eq_false λq=>q h
theorem ll {x d:Addr} {b:List UInt8} {i:Int} {s:List UInt8} {y:Int} {k:Int} {L₁:ah} (hp:bW L x (aj.inst 309 d (jh b i)) L₁) (j:Int) (hj:i+k=j) (e:aC b (some i) (some j)=s) (es:s=aJ y k.toNat) (hb:b.length≤1000000) (hik:j≤b.length) (hk:k.toNat≤4) (h0:0≤y) (h1:y <256 ^ k.toNat) {Q:ad} {X:ac} (kk:Q (.int y) ((x,.inst 309 d (jh b j))::L₁)):ae c (n+3) (.ref 299) [.obj x,.int k] L Q X:=by
 subst es hj
 exact n5 hp hb hik (by rw [e,bQ];exact Ai hk (by decide)) (by rw [e];exact aqn (by rw [bQ];exact hk)) (by rw [e,cU _ _ h0 h1];exact kk)
theorem dJ (n k:Nat) (h:k≤n):Cq n (k:Int)=k:=by
 unfold Cq
 rw [if_neg (Int.not_lt.mpr (Av k))]
 exact ai8 h
theorem bI {α:Type} {b p q s:List α} {i j:Int} (e:b=p++(q++s)) (hi:i=p.length) (hj:j=i+q.length):aC b (some i) (some j)=q:=by
 subst e hi hj
 unfold aC
 show ((p++(q++s)).drop (Cq _ _)).take (Cq _ _ - Cq _ _)=q
 have h1:p.length≤(p++(q++s)).length:=by rw [As];lia
 have h2:p.length+q.length≤(p++(q++s)).length:=by rw [As,As];lia
 rw [dJ _ _ h1,show (p.length:Int)+q.length=((p.length+q.length:Nat):Int) from rfl,dJ _ _ h2,List.drop_left,D6,List.take_left]
theorem zs1 (z:Zn) {b:List UInt8} (e:b=bO z):aC b (some 0) (some 1)=aJ z.sort 1:=by
 refine bI (p:=[]) (s:=aJ z.mode 2++aJ z.size 4++aJ z.links 2++aJ z.parent 4++aJ z.made 4++aJ z.changed 4) (e.trans ?_) rfl rfl
 simp only [bO,Aq,A6]
theorem zs2 (z:Zn) {b:List UInt8} (e:b=bO z):aC b (some 1) (some 3)=aJ z.mode 2:=by
 refine bI (p:=[]++aJ z.sort 1) (s:=aJ z.size 4++aJ z.links 2++aJ z.parent 4++aJ z.made 4++aJ z.changed 4) (e.trans ?_) rfl rfl
 simp only [bO,Aq,A6]
theorem zs3 (z:Zn) {b:List UInt8} (e:b=bO z):aC b (some 3) (some 7)=aJ z.size 4:=by
 refine bI (p:=[]++aJ z.sort 1++aJ z.mode 2) (s:=aJ z.links 2++aJ z.parent 4++aJ z.made 4++aJ z.changed 4) (e.trans ?_) rfl rfl
 simp only [bO,Aq,A6]
theorem zs4 (z:Zn) {b:List UInt8} (e:b=bO z):aC b (some 7) (some 9)=aJ z.links 2:=by
 refine bI (p:=[]++aJ z.sort 1++aJ z.mode 2++aJ z.size 4) (s:=aJ z.parent 4++aJ z.made 4++aJ z.changed 4) (e.trans ?_) rfl rfl
 simp only [bO,Aq,A6]
theorem zs5 (z:Zn) {b:List UInt8} (e:b=bO z):aC b (some 9) (some 13)=aJ z.parent 4:=by
 refine bI (p:=[]++aJ z.sort 1++aJ z.mode 2++aJ z.size 4++aJ z.links 2) (s:=aJ z.made 4++aJ z.changed 4) (e.trans ?_) rfl rfl
 simp only [bO,Aq,A6]
theorem zs6 (z:Zn) {b:List UInt8} (e:b=bO z):aC b (some 13) (some 17)=aJ z.made 4:=by
 refine bI (p:=[]++aJ z.sort 1++aJ z.mode 2++aJ z.size 4++aJ z.links 2++aJ z.parent 4) (s:=aJ z.changed 4) (e.trans ?_) rfl rfl
 simp only [bO,Aq,A6]
theorem zs7 (z:Zn) {b:List UInt8} (e:b=bO z):aC b (some 17) (some 21)=aJ z.changed 4:=by
 refine bI (p:=[]++aJ z.sort 1++aJ z.mode 2++aJ z.size 4++aJ z.links 2++aJ z.parent 4++aJ z.made 4) (s:=[]) (e.trans ?_) rfl rfl
 simp only [bO,Aq,A6]
theorem yu {z:Zn} {b:List UInt8} (hz:cf z) (e:b=bO z) {Q:ad} {X:ac} (kk:∀ x d,Q (.obj x) ((x,.inst 640 d (eO z))::L)):ae c (n+4) (.ref 658) [.bytes b] L Q X:=by
 have le:b.length=21:=by rw [e];rfl
 have lb:b.length≤1000000:=by rw [le];decide
 refine ae.norm (rT λa=>@aa _ _ _ _ _ _ _ _ _ _ 12 ?_).fn
 intro GL
 show(cJ lb,fE (neF (show (b.length:Int)=21 by rw [le];rfl)),aa0 λcx cd=>?_,oY (Am _ (Ah rfl ?_)),aU (.inst (Aa _ (.head _)) rfl rfl rfl),ll (k:=1) .here 1 rfl (zs1 z e) rfl lb (by rw [le];decide) (by decide) hz.sort.1 (Az hz.sort.2 (by decide)),aU (.inst (Aa _ (.head _)) rfl rfl rfl),ll (k:=2) .here 3 rfl (zs2 z e) rfl lb (by rw [le];decide) (by decide) hz.mode.1 hz.mode.2,aU (.inst (Aa _ (.head _)) rfl rfl rfl),ll (k:=4) .here 7 rfl (zs3 z e) rfl lb (by rw [le];decide) (by decide) hz.size.1 hz.size.2,Am _ (Ah rfl (Ah rfl ?_)),xk (Ah rfl ?_),aU (.inst (Aa _ (.head _)) rfl rfl rfl),ll (k:=2) .here 9 rfl (zs4 z e) rfl lb (by rw [le];decide) (by decide) hz.links.1 hz.links.2,aU (.inst (Aa _ (.head _)) rfl rfl rfl),ll (k:=4) .here 13 rfl (zs5 z e) rfl lb (by rw [le];decide) (by decide) hz.parent.1 hz.parent.2,aU (.inst (Aa _ (.head _)) rfl rfl rfl),ll (k:=4) .here 17 rfl (zs6 z e) rfl lb (by rw [le];decide) (by decide) hz.made.1 hz.made.2,aU (.inst (Aa _ (.head _)) rfl rfl rfl),ll (k:=4) .here 21 rfl (zs7 z e) rfl lb (by rw [le];decide) (by decide) hz.changed.1 hz.changed.2,cQ (Int.not_lt.mpr hz.sort.2),(pn (z:=z) λx d=>?_).le (Br _),⟨_,⟨[_],wm⟩,kk x d⟩)
end
theorem aV {m:Loc} {x:Str} {v:V} {f:V->Prop} (h:m.lookup x=some v) (k:f v):onS (m.lookup x) f:=by rw [h];exact k
theorem dH.prt {x:Str} (h:dH x):jI x:=⟨λk hk=>⟨(h.pr k hk).1,(h.pr k hk).2.1⟩,Ai h.hi (by decide)⟩
structure eP (r:bP):Prop where
 good:dH r.1
 len:r.1.cps.toList.length≤8
 num:0≤r.2∧r.2 <1000000
noncomputable def lq (r:bP):List UInt8:=aJ r.1.cps.toList.length 1++bA r.1++aJ r.2 8
noncomputable def bw (rows:List bP):List UInt8:=rows.flatMap lq
noncomputable def n6 (salt:Int) (rows:List bP):List UInt8:=[]++aJ 1 1++aJ salt 4++aJ rows.length 2
noncomputable def encM (salt:Int) (rows:List bP):List UInt8:=n6 salt rows++bw rows++Bt (128 - (n6 salt rows++bw rows).length) 0
theorem qN (r:bP):(lq r).length=9+r.1.cps.toList.length:=by
 unfold lq
 rw [As,As,bQ,bQ,bH,CJ]
theorem jK:∀ (rows:List bP),(∀ r∈rows,eP r)->(bw rows).length≤17 * rows.length
 | [],_=>AL _
 | r::rows,h=>by
  have h1:=jK rows λq hq=>h q (.tail _ hq)
  have h2:=(h r (.head _)).len
  show (lq r++bw rows).length≤17 * (rows.length+1)
  rw [As,qN,Ib,IA]
  exact CK h1 (BK h2 9)
theorem fW (salt:Int) (rows:List bP):(n6 salt rows).length=7:=rfl
section
variable {c:Cx} {n:Nat} {L:ah}
theorem qO (rows:List bP) {i:Nat} {r:bP} (h:rows[i]?=some r):bw (rows.take (i+1))=bw (rows.take i)++lq r:=by
 rw [BE,h]
 show List.flatMap lq (_++[r])=_
 rw [Bx]
 show _++(lq r++[])=_
 rw [A6];rfl
theorem c8 {salt:Int} {rows:List bP} (hs:0≤salt∧salt <4294967296) (hr:∀ r∈rows,eP r) (hl:rows.length≤6) {Q:ad} {X:ac} (kk:Q (.bytes (encM salt rows)) L):ae c (n+4) (.ref 355) [.int salt,.list (rows.map c7),.int 128] L Q X:=by
 have l2:n+2≤n+3:=Br _
 refine (lQ λa=>@aa _ _ _ _ _ _ _ _ _ _ 12 ?_).fn
 intro GL
 show[aen λsx sd sa=>?_,aU (.inst (Aa _ (.head _)) rfl rfl rfl),(a9 (k:=1) (by decide) (by decide) (by decide) (by decide) (by decide) ?_).le l2,aU (.inst (Aa _ (.head _)) rfl rfl rfl),(a9 (k:=4) hs.1 (by decide) (by decide) hs.2 (by show 1≤_;decide) ?_).le l2,aU (.inst (Aa _ (.head _)) rfl rfl rfl),sU (by rw [Af];lia)]
 rw [Af]
 show[(a9 (k:=2) (Av _) (by decide) (by decide) (by show (rows.length:Int) <65536;lia) (by show 5≤_;decide) ?_).le l2,ph bn,exL (λi m L'=>m.lookup ("sink":Str)=some (.obj sx)∧m.lookup ("size":Str)=some (.int 128)∧L'=snk sx sd sa (n6 salt rows++bw (rows.take i)) L)]
 intro JJ
 refine Ah ⟨rfl,rfl,by rw [Fh];exact congrArg (λb=>snk sx sd sa b L) (A6 _).symm⟩ (Ah (λi x m1 L2 hx J=>?_) λm1 L2 J=>?_)
 ·intro GJ
  show[dR J]
  clear J
  intro j1 j2 q1'
  subst q1'
  rw [AE] at hx
  refine an (Option.map_eq_some_iff.mp hx) λr hr1 q1'=>?_
  subst q1'
  have ok:=hr r (Bc hr1)
  have hi:i <rows.length:=(List.getElem?_eq_some_iff.mp hr1).1
  have hb:=jK (rows.take i) λq hq=>hr q (Dq hq)
  have hb:=Ai hb (DJ 17 (Ai (Dv ..) hl))
  show(aV j1,aU (.inst (Aa _ (.head _)) rfl rfl rfl),aa3 ok.good.prt (HK ok.len (by decide)) (by rw [As,fW];exact Ai (BK hb 7) (by decide)),aV j1,aU (.inst (Aa _ (.head _)) rfl rfl rfl),(a9 (k:=8) ok.num.1 (by decide) (by decide) (Cj ok.num.2 (by decide)) (by rw [As,As,As,fW,bQ,bH];exact Ai (CK (Nat.add_le_add_right (BK hb 7) 1) ok.len) (by decide)) ?_).le l2,⟨j1,j2,by rw [qO rows hr1];show snk _ _ _ _ _=snk _ _ _ _ _;congr 1;simp only [lq,Aq];rfl⟩)
 ·show[dR J]
  clear J
  intro j1 j2 q1'
  subst q1'
  rw [Af,BU]
  have hz:=jK rows hr
  have hz2:(n6 salt rows++bw rows).length≤128:=by rw [As,fW];exact Ai (BK (Ai hz (DJ 17 hl)) 7) (by decide)
  show[aV j1,aU (.inst (Aa _ (.head _)) rfl rfl rfl),(qM (Ai hz2 (by decide)) ?_).le (Bz 1 (n+2)),cJ (Ai hz2 (by decide)),aV j2,d0 (Int.ofNat_le.mpr hz2),aV j2,(wk (Int.ofNat_le.mpr hz2) (by decide) ?_).le (Bz 1 (n+2)),kq (congrArg V.bytes ?_) kk]
  unfold encM
  generalize n6 salt rows++bw rows=q at hz2 ⊢
  refine congrArg (λk=>q++Bt k 0) (show ((128:Int) - (q.length:Int)).toNat=128 - q.length from FE 128 q.length)
end
theorem qP {x:Str} (h:∀ k∈x.cps.toList,32≤k∧k <127):aa1 (bA x)=x:=by
 obtain ⟨⟨l⟩⟩:=x
 unfold aa1 bA
 rw [Aw]
 show (⟨(l.map _).toArray⟩:Str)=⟨⟨l⟩⟩
 congr 1
 congr 1
 refine (By λk hk=>?_).trans (List.map_id l)
 show k.toUInt8.toNat=k
 have:=(h k hk).2
 exact IP (IB this (by decide))
theorem uH {x:Str} (h:jI x):yt (bA x):=by
 show[⟨λu hu=>?_,by rw [bH];exact h.2⟩,an (List.mem_map.mp hu) λk hk q1'=>?_]
 subst q1'
 have:=h.1 k hk
 show 32≤k % 256∧k % 256 <127
 rw [IP (IB this.2 (by decide))];exact this
section
variable {c:Cx} {n:Nat} {L:ah}
theorem ah3 {x d:Addr} {b:List UInt8} {i:Int} {y:Int} {k:Int} {L₁:ah} (hp:bW L x (aj.inst 309 d (jh b i)) L₁) (e:aC b (some i) (some (i+k))=aJ y k.toNat) (hb:b.length≤1000000) (hik:i+k≤b.length) (hk:k.toNat≤8) (h0:0≤y) (h1:y <256 ^ k.toNat) (h2:y <2 ^ 63) {Q:ad} {X:ac} (kk:Q (.int y) ((x,.inst 309 d (jh b (i+k)))::L₁)):ae c (n+3) (.ref 299) [.obj x,.int k] L Q X:=by
 exact n5 hp hb hik (by rw [e,bQ];exact hk) (by rw [e,cU _ _ h0 h1];exact h2) (by rw [e,cU _ _ h0 h1];exact kk)
theorem aeo (salt:Int) (rows:List bP) {i:Nat} {r:bP} (h:rows[i]?=some r):∃ s,encM salt rows=(n6 salt rows++bw (rows.take i))++(lq r++s):=by
 have e:rows=rows.take i++r::rows.drop (i+1):=by
  refine aE (List.getElem?_eq_some_iff.mp h) λhi q1'=>?_
  subst q1'
  rw [List.getElem_cons_drop,Bg]
 refine ⟨bw (rows.drop (i+1))++Bt (128 - (n6 salt rows++bw rows).length) 0,?_⟩
 unfold encM
 conv=>lhs;rw [show bw rows=bw (rows.take i)++(lq r++bw (rows.drop (i+1))) from by
  conv=>lhs;rw [e]
  unfold bw;rw [Bx,Bs]]
 conv=>rhs;rw [show bw rows=bw (rows.take i)++(lq r++bw (rows.drop (i+1))) from by
  conv=>lhs;rw [e]
  unfold bw;rw [Bx,Bs]]
 simp only [Aq]
theorem c9 {salt:Int} {rows:List bP} (hr:∀ r∈rows,eP r) (hl:rows.length≤6):(encM salt rows).length=128:=by
 have:=jK rows hr
 unfold encM
 rw [As,BY,As,fW];exact Ed (Ai (BK (Ai this (DJ 17 hl)) 7) (by decide))
theorem d7 {salt:Int} {rows:List bP} {b:List UInt8} (e:b=encM salt rows) (hr:∀ r∈rows,eP r) (hl:rows.length≤6) {Q:ad} {X:ac} (kk:Q (.list (rows.map c7)) L):ae c (n+5) (.ref 362) [.bytes b] L Q X:=by
 have lb:b.length=128:=by rw [e];exact c9 hr hl
 have lb2:b.length≤1000000:=by rw [lb];decide
 have es:aC b (some 5) (some 7)=aJ rows.length 2:=by
  rw [e]
  exact bI (p:=aJ 1 1++aJ salt 4) (s:=bw rows++Bt (128 - (n6 salt rows++bw rows).length) 0) (by simp only [encM,n6,Aq,GE]) rfl rfl
 have en:iz (aC b (some 5) (some 7))=rows.length:=by rw [es,cU 2 _ (Av _) (Az (Int.ofNat_le.mpr hl) (by decide))]
 refine ae.norm (ae.freeze (oH λa=>@aa _ _ _ _ _ _ _ _ _ _ 12 ?_).fn)
 intro GL
 show[oY (Am _ (Ah rfl ?_)),(aej (b:=b) (i:=7) λcx cd=>?_).le (lE n 2 4 rfl),oY λfa=>?_,Am _ (Ah rfl (Ah rfl ?_)),Am _ (Ah rfl ?_),Am _ (Ah rfl ?_),dE lb2,(oz (by rw [es,bQ];decide) (by rw [en];lia) ?_).le (lE n 1 4 rfl)]
 rw [en]
 show[Am (rows.length:Int) (Ah rfl (Ah (Av _) (Ah (by lia) ?_))),exL (λi m L'=>m.lookup ("cursor":Str)=some (.obj cx)∧m.lookup ("found":Str)=some (.obj fa)∧L'=(fa,.lst ((rows.take i).map c7))::(cx,.inst 309 cd (jh b (7+((bw (rows.take i)).length:Int))))::L)]
 intro JJ
 refine Ah ⟨rfl,rfl,rfl⟩ (Ah (λi x m1 L2 hx J=>?_) λm1 L2 J=>?_)
 ·intro GJ
  show[dR J]
  clear J
  intro j1 j2 q1'
  subst q1'
  obtain rfl:x=.int i:=by
   unfold bN at hx
   rw [AE,AX] at hx
   refine an (Option.map_eq_some_iff.mp hx) λr hr1 q1'=>?_
   subst q1'
   rw [ET (Ba (n:=rows.length)▸(List.getElem?_eq_some_iff.mp hr1).1)] at hr1
   cases hr1;rfl
  obtain ⟨r,hr1⟩:∃ r,rows[i]?=some r:=by
   have h2:=(List.getElem?_eq_some_iff.mp hx).1
   rw [lj,AX] at h2
   exact ⟨_,AB h2⟩
  have ok:=hr r (Bc hr1)
  refine aE (aeo salt rows hr1) λs hs=>?_
  rw [← e] at hs
  have hp:(7:Int)+(bw (rows.take i)).length=(n6 salt rows++bw (rows.take i)).length:=by rw [As,fW];rfl
  have hz:=congrArg FD hs
  rw [lb,As,As,As,qN,fW] at hz
  generalize hi:(7:Int)+(bw (rows.take i)).length=j at hp ⊢
  have s1:aC b (some j) (some (j+1))=aJ r.1.cps.toList.length 1:=bI (s:=bA r.1++(aJ r.2 8++s)) (by rw [hs];simp only [lq,Aq]) hp rfl
  have n1:iz (aC b (some j) (some (j+1)))=r.1.cps.toList.length:=by rw [s1,cU 1 _ (Av _) (by show (r.1.cps.toList.length:Int) <256;have:=ok.len;lia)]
  have s2:aC b (some (j+1)) (some (j+1+r.1.cps.toList.length))=bA r.1:=bI (p:=(n6 salt rows++bw (rows.take i))++aJ r.1.cps.toList.length 1) (s:=aJ r.2 8++s) (by rw [hs];simp only [lq,Aq]) (by rw [As,bQ,hp];rfl) (by rw [bH])
  have s3:aC b (some (j+1+r.1.cps.toList.length)) (some (j+1+r.1.cps.toList.length+8))=aJ r.2 (8:Int).toNat:=bI (p:=(n6 salt rows++bw (rows.take i))++aJ r.1.cps.toList.length 1++bA r.1) (s:=s) (by rw [hs];simp only [lq,Aq];rfl) (by rw [As,As,bQ,bH,hp,As];rfl) rfl
  show[aV j1,aU (.inst (Aa _ (.tail _ (.head _))) rfl rfl rfl),ah2 (.there .here) lb2 (by rw [lb];lia) n1 (by rw [s1,bQ];decide) (by rw [lb];lia) (by have:=ok.len;lia) (by rw [s2];exact uH ok.good.prt)]
  rw [s2,qP ok.good.prt.1]
  show[aV j2,aU (.append (Aa _ (.tail _ (.head _)))),aV j1,aU (.inst (Aa _ (.head _)) rfl rfl rfl),(ah3 (k:=8) .here s3 lb2 (by rw [lb];lia) (by decide) ok.num.1 (Cj ok.num.2 (by decide)) (Cj ok.num.2 (by decide)) ?_).le (Br _),ur (.there .here) (by rw [Af];exact Ai (Dv ..) (Ai hl (by decide))),⟨j1,j2,?_⟩]
  rw [BE,hr1,AT,show bw (rows.take i++(some r).toList)=bw (rows.take i)++lq r from by rw [← hr1,← BE,qO rows hr1],As,qN,show (7:Int)+((bw (rows.take i)).length+(9+r.1.cps.toList.length):Nat)=j+1+r.1.cps.toList.length+8 from by lia]
  rfl
 ·show[dR J]
  clear J
  intro j1 j2 q1'
  subst q1'
  rw [lj,AX,BU]
  show(aV j2,.inr ⟨fa,_,_,rfl,.here,L,.tail,kk⟩)
end
section
variable {c:Cx} {n:Nat} {L:ah}
theorem yv {r:bP} (ok:eP r) {Q:ad} {X:ac} (kk:Q .none L):ae c (n+2) (.ref 348) [.str r.1,.int r.2] L Q X:=by
 have hl:(bA r.1).length≤28:=by rw [bH];have:=ok.len;lia
 have h0:0 <(bA r.1).length:=by rw [bH];exact ok.good.lo
 refine (rL λa=>@aa _ _ _ _ _ _ _ _ _ _ 12 ?_).fn
 intro GL
 show(fw ok.good.prt,cJ (Ai hl (by decide)),d0 (Int.ofNat_lt.mpr h0),fE (b:=!decide (((bA r.1).length:Int)≤28)) (by rw [decide_eq_true (show ((bA r.1).length:Int)≤28 from Int.ofNat_le.mpr hl)];rfl),d0 ok.num.1,yZ (by decide) (by decide) (by decide) (by decide),fE (b:=!decide (r.2 <(256:Int) ^ (8:Int).toNat)) (by rw [decide_eq_true (show r.2 <(256:Int) ^ (8:Int).toNat from Cj ok.num.2 (by decide))];rfl),kk)
theorem dc {x:Str} (hx:dH x) {Q:ad} {X:ac} (kk:Q .none L):ae c (n+2) (.ref 583) [.str x] L Q X:=by
 refine (iK λa=>@aa _ _ _ _ _ _ _ _ _ _ 12 ?_).fn
 intro GL
 show(hY hx,kk)
end
noncomputable abbrev sy (kind block most:Int) (bonus:List UInt8):List (Str × V):=[(Ab "kind",.int kind),(Ab "block",.int block),(Ab "levels",.int 1),(Ab "most",.int most),(Ab "bonus",.bytes bonus),(Ab "pointer",.none),(Ab "used",.int 0)]
noncomputable def eY:Option Int->V
 | none=>.none
 | some i=>.int i
structure Ob where
 ch:Addr
 chd:Addr
 dn:Addr
 dnd:Addr
 bl:Addr
 kind:Int
 block:Int
 bonus:List UInt8
 blocks:List (Int × List UInt8)
 first:Option Int
 most:Int
noncomputable abbrev chF (o:Ob):List (Str × V):=[(Ab "dnode",.obj o.dn),(Ab "is_new",.bool true),(Ab "blocks",.obj o.bl),(Ab "first",eY o.first),(Ab "most",.int o.most)]
noncomputable abbrev cG (l:List (Int × List UInt8)):List (Int × V):=l.map λp=>(p.1,.bytes p.2)
noncomputable abbrev rD (o:Ob):ah:=[(o.ch,.inst 1481 o.chd (chF o)),(o.dn,.inst 1168 o.dnd (sy o.kind o.block (-1) o.bonus)),(o.bl,.dI (cG o.blocks))]
structure OS where
 x:Addr
 d:Addr
 shp:Addr
 shd:Addr
 cg:Addr
 io:V
 head:V
 gone:V
 top:Option Int
 objs:List (Int × Ob)
noncomputable abbrev shF:List (Str × V):=[(Ab "sector",.int 16),(Ab "slab",.int 32),(Ab "record",.int 16),(Ab "fan",.int 4),(Ab "dnodes",.int 4),(Ab "ring",.int 4),(Ab "defer",.int 2),(Ab "most_record",.int 64),(Ab "uber",.int 96),(Ab "config",.int 96),(Ab "zap",.int 128)]
noncomputable abbrev osF (s:OS):List (Str × V):=[(Ab "io",s.io),(Ab "shape",.obj s.shp),(Ab "pointer",.none),(Ab "view",.none),(Ab "head",s.head),(Ab "changes",.obj s.cg),(Ab "gone",s.gone),(Ab "top",eY s.top),(Ab "is_turned",.bool true)]
noncomputable abbrev xl (l:List (Int × Ob)):List (Int × V):=l.map λp=>(p.1,.obj p.2.ch)
noncomputable def gK (l:List (Int × Ob)):ah:=l.flatMap λp=>rD p.2
noncomputable abbrev aQ (s:OS):ah:=(s.x,.inst 1639 s.d (osF s))::(s.shp,.inst 500 s.shd shF)::(s.cg,.dI (xl s.objs))::gK s.objs
noncomputable def ba {α:Type} (l:List (Int × α)) (k:Int):Option α:=(l.find? λp=>decide (p.1=k)).map EB
noncomputable abbrev OS.get (s:OS) (k:Int):Option Ob:=ba s.objs k
theorem jk {α:Type} (f:α->V) (k:Int):∀ l:List (Int × α),getD (l.map λp=>(p.1,f p.2)) k=(ba l k).map f
 | []=>rfl
 | (j,a)::l=>by
  unfold getD ba
  rw [A0,A8,A8]
  by_cases q:j=k
  ·rw [decide_eq_true q];rfl
  ·rw [decide_eq_false q];exact jk f k l
theorem mB {α:Type} {k:Int} {a:α}:∀ {l:List (Int × α)},ba l k=some a->(k,a)∈l
 | [],h=>by cases h
 | (j,b)::l,h=>by
  unfold ba at h
  rw [A8] at h
  by_cases q:j=k
  ·rw [decide_eq_true q] at h;cases h;subst q;exact .head _
  ·rw [decide_eq_false q] at h;exact .tail _ (mB h)
section
variable {c:Cx} {n:Nat} {L:ah}
theorem aep {k b:Int} {Q:ad} {X:ac} (kk:∀ x d,Q (.obj x) ((x,.inst 1168 d (sy k b (-1) []))::L)):ae c (n+2) (.ref 1168) [.int k,.int b] L Q X:=by
 refine b6 rfl λx d=>oO λa=>@aa _ _ _ _ _ _ _ _ _ _ 12 ?_
 intro GL
 show(cJ (by decide),ak .here rfl,ak .here rfl,ak .here rfl,ak .here rfl,ak .here rfl,ak .here rfl,ak .here rfl,⟨rfl,kk x d⟩)
theorem aeq {k b:Int} {bo:List UInt8} (hb:bo.length≤32) {Q:ad} {X:ac} (kk:∀ x d,Q (.obj x) ((x,.inst 1168 d (sy k b (-1) bo))::L)):ae c (n+2) (.ref 1168) [.int k,.int b,.int 1,.int (-1),.bytes bo] L Q X:=by
 refine b6 rfl λx d=>lV λa=>@aa _ _ _ _ _ _ _ _ _ _ 12 ?_
 intro GL
 show(cJ (Ai hb (by decide)),cQ (Int.not_lt.mpr (Int.ofNat_le.mpr hb)),ak .here rfl,ak .here rfl,ak .here rfl,ak .here rfl,ak .here rfl,ak .here rfl,ak .here rfl,⟨rfl,kk x d⟩)
theorem aer {k b m:Int} {bo:List UInt8} (hb:bo.length≤32) {Q:ad} {X:ac} (kk:∀ x d,Q (.obj x) ((x,.inst 1168 d (sy k b m bo))::L)):ae c (n+2) (.ref 1168) [.int k,.int b,.int 1,.int m,.bytes bo,.none,.int 0] L Q X:=by
 refine b6 rfl λx d=>lW λa=>@aa _ _ _ _ _ _ _ _ _ _ 12 ?_
 intro GL
 show(cJ (Ai hb (by decide)),cQ (Int.not_lt.mpr (Int.ofNat_le.mpr hb)),ak .here rfl,ak .here rfl,ak .here rfl,ak .here rfl,ak .here rfl,ak .here rfl,ak .here rfl,⟨rfl,kk x d⟩)
theorem ah5 {x d:Addr} {k b m:Int} {bo:List UInt8} (hm:(x,aj.inst 1168 d (sy k b m bo))∈c.R++L) (hb:bo.length≤32) {Q:ad} {X:ac} (kk:∀ y e,Q (.obj y) ((y,.inst 1168 e (sy k b m bo))::L)):ae c (n+3) (.ref 1158) [.obj x] L Q X:=by
 refine (oP λa=>@aa _ _ _ _ _ _ _ _ _ _ 12 ?_).fn
 intro GL
 show(aI hm rfl rfl,aI hm rfl rfl,aI hm rfl rfl,aI hm rfl rfl,aI hm rfl rfl,aI hm rfl rfl,aI hm rfl rfl,aer hb kk)
theorem aes {k b:Int} {bo:List UInt8} {x d:Addr} {t:V} (ht:t=.bool true) {Q:ad} {X:ac} (kk:∀ (o:Ob),o.kind=k->o.block=b->o.bonus=bo->o.blocks=[]->o.first=none->o.most=-1->Q (.obj o.ch) (rD o++L)):ae c (n+2) (.ref 1481) [.obj x,t] ((x,.inst 1168 d (sy k b (-1) bo))::L) Q X:=by
 subst ht
 refine ae.norm (b6 rfl λy e=>nF λa=>@aa _ _ _ _ _ _ _ _ _ _ 12 ?_)
 intro GL
 show(ak .here rfl,ak .here rfl,oY λbl=>?_,ak (.there .here) rfl,ak .here rfl,aI (Aa _ (.tail _ (.tail _ (.head _)))) rfl rfl,ak .here rfl,⟨rfl,_,.of (.cons _ wm),kk ⟨y,e,x,d,bl,k,b,bo,[],none,-1⟩ rfl rfl rfl rfl rfl rfl⟩)
theorem ami {o:Ob} (h1:∀ p∈rD o,p∈c.R++L) (hb:o.bonus.length≤32) {Q:ad} {X:ac} (kk:∀ y e,Q (.obj y) ((y,.inst 1168 e (sy o.kind o.block o.most o.bonus))::L)):ae c (n+4) (.ref 1478) [.obj o.ch] L Q X:=by
 have m0:(o.ch,aj.inst 1481 o.chd (chF o))∈c.R++L:=h1 _ (.head _)
 refine (nG λa=>@aa _ _ _ _ _ _ _ _ _ _ 12 ?_).fn
 intro GL
 show(aI m0 rfl rfl,aU (.inst (h1 _ (.tail _ (.head _))) rfl rfl rfl),ah5 (by exact h1 _ (.tail _ (.head _))) hb λy e=>?_,aI (bC m0) rfl rfl,ak .here rfl,kk y e)
end
abbrev wn:Type:=Int × Int × Int
noncomputable def prt (bs:Int):Nat->Int->Int->List wn
 | 0,_,_=>[]
 | k+1,i,e=>if i <e then (i / bs,i % bs,i % bs+min (bs - i % bs) (e - i))::prt bs k (i+min (bs - i % bs) (e - i)) e else []
noncomputable abbrev zg (t:wn):V:=.tup [.int t.1,.int t.2.1,.int t.2.2]
theorem pv (bs:Int):∀ (k:Nat) (i e:Int),(prt bs k i e).length≤k
 | 0,_,_=>AL _
 | k+1,i,e=>by
  unfold prt
  by_cases q:i <e
  ·rw [if_pos q];exact BD (pv bs k _ _)
  ·rw [if_neg q];exact BQ _
theorem zh {bs:Int} {k:Nat} {i e:Int} (h:¬ i <e):prt bs k i e=[]:=by
 cases k with
 | zero=>rfl
 | succ k=>unfold prt;rw [if_neg h]
section
variable {c:Cx} {n:Nat} {L:ah}
inductive amj (i many bs:Int) (fa:Addr) (L:ah) (k:Nat) (m:Loc) (L':ah):Prop
 | mk (j:Int) (l:List wn) (h0:m.lookup ("at":Str)=some (.int j)) (h1:m.lookup ("end":Str)=some (.int (i+many))) (h2:m.lookup ("block":Str)=some (.int bs)) (h3:m.lookup ("found":Str)=some (.obj fa)) (h4:L'=(fa,.lst (l.map zg))::L) (h5:0≤j) (h6:(i+many - j).toNat≤k) (h7:l++prt bs k j (i+many)=prt bs many.toNat i (i+many))
theorem kr {i many bs:Int} (h0:0≤i) (h1:0≤many) (h2:many≤10000) (b0:0 <bs) (b1:bs≤10000) {Q:ad} {X:ac} (kk:Q (.list ((prt bs many.toNat i (i+many)).map zg)) L):ae c (n+1) (.ref 1371) [.int i,.int many,.int bs] L Q X:=by
 refine ae.norm (ae.freeze (nE λa=>@aa _ _ _ _ _ _ _ _ _ _ 12 ?_).fn)
 intro GL
 show[cQ (Int.not_lt.mpr h0),cQ (Int.not_lt.mpr h1),oY (Am _ (Ah rfl ?_)),oY λfa=>?_,Am _ (Ah rfl (Ah rfl ?_)),exL (amj i many bs fa L)]
 intro JJ
 refine Am many.toNat (Ah ⟨i,[],rfl,rfl,rfl,rfl,rfl,h0,BM ans,rfl⟩ λk m1 L1 J=>?_)
 intro GJ
 obtain ⟨j,l,j1,j2,j3,j4,rfl,j5,j6,j7⟩:=J
 show[aV j1,aV j2,xj (λq=>?_) λq=>?_]
 ·have q:=of_decide_eq_true q
  have hm0:=Bh j (ne0 b0)
  have hm1:=AW j b0
  have hp:=akb hm1 q
  show[oY (Am _ (Ah rfl ?_)),aV j1,aV j3,l8 b0 (Bu (ant b0 b1)),aV j1,aV j3,c5 b0,Am _ (Ah rfl (Ah rfl ?_)),aV j3,aV j2,aV j1,xZ,aV j4,aU (.append (Aa _ (.head _))),ur .here ?_ ?_]
  ·have:=congrArg FD j7
   have h3:=pv bs many.toNat i (i+many)
   rw [As] at this
   rw [Af]
   exact Ai (BV _ _) (Ai (BM this) (Ai h3 (Int.toNat_le.mpr (Au h2 (by decide)))))
  show[aV j1]
  obtain ⟨k,rfl⟩:=exS (Fu q) j6
  refine ⟨k,Dz k,j+min (bs - j % bs) (i+many - j),l++[(j / bs,j % bs,j % bs+min (bs - j % bs) (i+many - j))],rfl,j2,j3,j4,by rw [AT];rfl,CH j5 (Bf hp),by rw [← IZ];exact tk j6 hp,?_⟩
  rw [← j7]
  conv=>rhs;unfold prt
  rw [if_pos q,Aq];rfl
 ·have q:=of_decide_eq_false q
  rw [zh q,A6] at j7
  subst j7
  show(aV j4,.inr ⟨fa,_,_,rfl,.here,L,.rfl,kk⟩)
end
noncomputable def fy (blk:Int->List UInt8) (bs:Int) (i:Int):UInt8:=(blk (i / bs)).getD (i % bs).toNat 0
noncomputable def de (f:Int->UInt8) (i:Int) (k:Nat):List UInt8:=(CG k).map λ(j:Nat)=>f (i+(j:Int))
theorem yw (f:Int->UInt8) (i:Int) (a b:Nat):de f i (a+b)=de f i a++de f (i+a) b:=by
 unfold de
 rw [List.range_add,AT,Aw]
 refine congrArg _ (By λj O=>?_)
 show f (i+((a+j:Nat):Int))=f (i+a+j)
 rw [I1,BJ]
theorem dv {f:Int->UInt8} {i:Int} {k:Nat}:(de f i k).length=k:=by unfold de;rw [Af,Ba]
theorem jl {f:Int->UInt8} {i:Int} {k j:Nat} (h:j <k):(de f i k).getD j 0=f (i+j):=by
 unfold de
 rw [Ak,AE,ET h];rfl
theorem wo {l:List UInt8} {b s:Nat} (h:b+s≤l.length):aC l (some (b:Int)) (some ((b:Int)+s))=de (λj=>l.getD j.toNat 0) b s:=by
 unfold aC
 show (l.drop (Cq _ _)).take (Cq _ _ - Cq _ _)=_
 rw [dJ _ _ (Ai (BV ..) h),show (b:Int)+s=((b+s:Nat):Int) from rfl,dJ _ _ h,D6]
 refine C2 (by rw [dv,BI (by rw [B8];exact Dm h)]) λk h1 h2=>?_
 rw [dv] at h2
 rw [List.getElem_take,List.getElem_drop]
 have:=jl (f:=λj=>l.getD j.toNat 0) (i:=b) (k:=s) h2
 rw [Ak,AB (by rw [dv];exact h2)] at this
 refine Iq ?_ this.symm
 show _=l.getD ((b:Int)+(k:Int)).toNat 0
 rw [show ((b:Int)+(k:Int)).toNat=b+k from rfl,Ak,AB (B1 (Ho h2 b) h)];rfl
theorem qQ {bs i j:Int} (b0:0 <bs) (h1:i≤j) (h2:j <i - i % bs+bs):j / bs=i / bs∧j % bs=i % bs+(j - i):=by
 have h:=sbl (j:=j) (Ce i bs)
 have g0:=CH (Bh i (ne0 b0)) (BO h1)
 have g1:=sb2 h2
 have h3:(i % bs+(j - i)) / bs=0:=C6 g0 g1
 have h4:(i % bs+(j - i)) % bs=i % bs+(j - i):=Fv g0 g1
 have h5:((i % bs+(j - i))+bs * (i / bs)) / bs=i / bs:=by rw [Ei _ _ (ne0 b0),h3,EU]
 have h6:((i % bs+(j - i))+bs * (i / bs)) % bs=i % bs+(j - i):=by rw [Int.add_mul_emod_self_left,h4]
 rw [← h] at h5 h6
 exact ⟨h5,h6⟩
theorem wq {blk:Int->List UInt8} {bs:Int} (b0:0 <bs) (hb:∀ p,(blk p).length=bs):∀ (k:Nat) (i e:Int),0≤i->(e - i).toNat≤k->((prt bs k i e).map λt=>aC (blk t.1) (some t.2.1) (some t.2.2)).flatten=de (fy blk bs) i (e - i).toNat
 | 0,i,e,_,h=>by rw [Nat.eq_zero_of_le_zero h];rfl
 | k+1,i,e,h0,h=>by
  by_cases q:i <e
  ·unfold prt
   rw [if_pos q]
   have hp:=akb (AW i b0) q
   refine aE (exN (Bf hp)) λs hs=>?_
   rw [hs] at hp ⊢
   refine aE (exN (Bh i (ne0 b0))) λm hm=>?_
   rw [ts (hs▸FO _ _),IZ,yw,A0,Ix,wq b0 hb k (i+s) e (CH h0 (Av s)) (by rw [← IZ];exact tk h hp)]
   congr 1
   show aC (blk (i / bs)) (some (i % bs)) (some (i % bs+s))=_
   rw [hm,wo (ar1 (hm▸hs) (hb (i / bs)))]
   refine By λj hj=>?_
   have hj:=List.mem_range.mp hj
   have:=qQ (i:=i) (j:=i+j) b0 (Bd (Av j)) (sb3 hs hj)
   unfold fy
   rw [this.1,this.2,hm,tz]
  ·rw [zh q,Int.toNat_of_nonpos (GS (Int.not_lt.mp q))];rfl
structure dw (o:Ob):Prop where
 b0:0 <o.block
 b1:o.block≤128
 bon:o.bonus.length≤32
 full:∀ p∈o.blocks,(p.2.length:Int)=o.block
 most:∀ p∈o.blocks,p.1≤o.most
 keys:(o.blocks.map Ar).Nodup
 rng:∀ p∈o.blocks,0≤p.1∧p.1 <1000
noncomputable def bR (o:Ob) (p:Int):List UInt8:=(ba o.blocks p).getD (Bt o.block.toNat 0)
noncomputable def cont (o:Ob):Int->UInt8:=fy (bR o) o.block
theorem dw.len {o:Ob} (h:dw o) (p:Int):((bR o p).length:Int)=o.block:=by
 unfold bR
 cases e:ba o.blocks p with
 | none=>show ((Bt o.block.toNat 0).length:Int)=_;rw [BY];have:=h.b0;lia
 | some b=>exact h.full _ (mB e)
theorem gL {s:OS} {k:Int} {o:Ob} (h:s.get k=some o):getD (xl s.objs) k=some (.obj o.ch):=by
 show[(jk (λo:Ob=>V.obj o.ch) k s.objs).trans]
 rw [show ba s.objs k=some o from h];rfl
theorem dO {s:OS} {k:Int} {o:Ob} (h:s.get k=some o) {p:Addr × aj} (hp:p∈rD o):p∈aQ s:=
 .tail _ (.tail _ (.tail _ (List.mem_flatMap.mpr ⟨_,mB h,hp⟩)))
section
variable {c:Cx} {n:Nat} {L:ah}
theorem wt {s:OS} {k:Int} (h:s.get k=none):getD (xl s.objs) k=none:=by
 show[(jk (λo:Ob=>V.obj o.ch) k s.objs).trans]
 rw [show ba s.objs k=none from h];rfl
theorem wu {s:OS} {k:Int} (hm:∀ p∈aQ s,p∈c.R++L) (h:s.get k=none) {Q:ad} {X:ac} (kk:Q (.bool false) L):ae c (n+1) (.ref 1507) [.obj s.x,.int k] L Q X:=by
 refine (fR λa=>@aa _ _ _ _ _ _ _ _ _ _ 12 ?_).fn
 intro GL
 show(aI (by exact hm _ (.head _)) rfl rfl,o9 (by exact hm _ (.tail _ (.tail _ (.head _)))),fE (by rw [wt h];rfl),aI (by exact hm _ (.head _)) rfl rfl,kk)
theorem uI {s:OS} {k:Int} {o:Ob} (hm:∀ p∈aQ s,p∈c.R++L) (h:s.get k=some o) (ok:dw o) {Q:ad} {X:ac} (kk:∀ y e,Q (.obj y) ((y,.inst 1168 e (sy o.kind o.block o.most o.bonus))::L)):ae c (n+5) (.ref 1519) [.obj s.x,.int k] L Q X:=by
 refine (iX λa=>@aa _ _ _ _ _ _ _ _ _ _ 12 ?_).fn
 intro GL
 show(aI (by exact hm _ (.head _)) rfl rfl,o9 (by exact hm _ (.tail _ (.tail _ (.head _)))),um (by rw [gL h];rfl),aI (by exact hm _ (.head _)) rfl rfl,nJ (by exact hm _ (.tail _ (.tail _ (.head _)))) (gL h),aI (by exact hm _ (.head _)) rfl rfl,nJ (by exact hm _ (.tail _ (.tail _ (.head _)))) (gL h),aU (.inst (by exact hm _ (dO h (.head _))) rfl rfl rfl),ami (by exact λp hp=>hm p (dO h hp)) ok.bon kk)
theorem uJ {o:Ob} {p:Int}:getD (cG o.blocks) p=(ba o.blocks p).map .bytes:=jk V.bytes p o.blocks
theorem lr {x:V} {k p:Int} {o:Ob} (hm:∀ q∈rD o,q∈c.R++L) (ok:dw o) {Q:ad} {X:ac} (kk:Q (.bytes (bR o p)) L):ae c (n+1) (.ref 1533) [x,.int k,.obj o.ch,.int p] L Q X:=by
 refine (fS λa=>@aa _ _ _ _ _ _ _ _ _ _ 12 ?_).fn
 intro GL
 show[aI (by exact hm _ (.head _)) rfl rfl,o9 (by exact hm _ (.tail _ (.tail _ (.head _))))]
 cases e:ba o.blocks p with
 | some b=>
  show(um (by rw [uJ,e];rfl),aI (by exact hm _ (.head _)) rfl rfl,nJ (by exact hm _ (.tail _ (.tail _ (.head _)))) (by rw [uJ,e];rfl),kq (by unfold bR;rw [e];rfl) kk)
 | none=>
  show(fE (by rw [uJ,e];rfl),aI (by exact hm _ (.head _)) rfl rfl,aI (by exact hm _ (.tail _ (.head _))) rfl rfl,aI (by exact hm _ (.head _)) rfl rfl,aI (by exact hm _ (.tail _ (.head _))) rfl rfl,pc (Bf ok.b0) (Au ok.b1 (by decide)),kq (by unfold bR;rw [e];rfl) kk)
theorem fX {s:OS} {k:Int} {o:Ob} (hm:∀ p∈aQ s,p∈c.R++L) (h:s.get k=some o) {Q:ad} {X:ac} (kk:Q (.obj o.ch) L):ae c (n+1) (.ref 1552) [.obj s.x,.int k] L Q X:=by
 refine (gG λa=>@aa _ _ _ _ _ _ _ _ _ _ 12 ?_).fn
 intro GL
 show(aI (by exact hm _ (.head _)) rfl rfl,lh (by exact hm _ (.tail _ (.tail _ (.head _)))),fE (by rw [gL h];rfl),aI (by exact hm _ (.head _)) rfl rfl,nJ (by exact hm _ (.tail _ (.tail _ (.head _)))) (gL h),kk)
theorem yx {s:OS} {k i many:Int} {o:Ob} (hm:∀ p∈aQ s,p∈c.R++L) (h:s.get k=some o) (ok:dw o) (h0:0≤i) (h1:0≤many) (h2:many≤10000) {Q:ad} {X:ac} (kk:Q (.bytes (de (cont o) i many.toNat)) L):ae c (n+2) (.ref 1538) [.obj s.x,.int k,.int i,.int many] L Q X:=by
 have hf:=wq ok.b0 ok.len many.toNat i (i+many) h0 (by lia)
 rw [show (i+many - i).toNat=many.toNat by lia] at hf
 have hl:(prt o.block many.toNat i (i+many)).length≤1000000:=Ai (pv _ _ _ _) (by lia)
 refine (ke λa=>@aa _ _ _ _ _ _ _ _ _ _ 12 ?_).fn
 intro GL
 show[aI (by exact hm _ (.head _)) rfl rfl,lh (by exact hm _ (.tail _ (.tail _ (.head _)))),fE (by rw [gL h];rfl),aU (.inst (by exact hm _ (.head _)) rfl rfl rfl),fX (by exact hm) h,aI (by exact hm _ (dO h (.head _))) rfl rfl,aI (by exact hm _ (dO h (.tail _ (.head _)))) rfl rfl,kr h0 h1 h2 ok.b0 (Au ok.b1 (by decide)),aU .joinB,ph bn,sr (λv=>some (.bytes (aC (bR o (v.t.getD 0 .none).i) (some (v.t.getD 1 .none).i) (some (v.t.getD 2 .none).i)))) (by rw [Af];exact hl) (λC D o' v hv=>?_) ?_]
 ·refine an (List.mem_map.mp hv) λt ht q1'=>?_
  subst q1'
  show(aU (.inst (by exact .tail _ (hm _ (.head _))) rfl rfl rfl),eH (by show 3≤_;decide) rfl (by decide) rfl,lr (by exact λq hq=>.tail _ (hm _ (dO h hq))) ok,eH (by show 3≤_;decide) rfl (by decide) rfl,Am _ (Ah rfl ?_),eH (by show 3≤_;decide) rfl (by decide) rfl,Am _ (Ah rfl ?_),dE (by have:=ok.len t.1;have:=ok.b1;lia) ⟨rfl,rfl⟩)
 show[alz (bs:=(prt o.block many.toNat i (i+many)).map λt=>aC (bR o t.1) (some t.2.1) (some t.2.2)) (by rw [c6,Aw,Aw];rfl) (by rw [hf,dv];lia)]
 rw [hf]
 exact kk
end
theorem aet {a:Addr} {x:aj} {L:ah} (h:(a,x)∈L):∃ L₁,bW L a x L₁:=by
 induction L with
 | nil=>cases h
 | cons p L ih=>
  rcases List.mem_cons.mp h with e | h
  ·exact ⟨L,e▸.here⟩
  ·exact aE (ih h) λL₁ q=>⟨p::L₁,.there q⟩
theorem mC {L M:ah} {a:Addr} {x:aj} (h:L.Perm ((a,x)::M)):∃ L₁,bW L a x L₁∧L₁.Perm M:=by
 show(aE (aet (h.mem_iff.mpr (.head _))) λL₁ p=>?_,⟨L₁,p,List.Perm.cons_inv (p.perm.symm.trans h)⟩)
noncomputable def sett {α:Type} (l:List (Int × α)) (k:Int) (a:α):List (Int × α):=
 if l.any (λp=>decide (p.1=k)) then l.map (λp=>if p.1=k then (p.1,a) else p) else l++[(k,a)]
theorem s9 {α:Type} {k:Int} {l:List (Int × α)} (h:∀ p∈l,p.1≠k):ba l k=none:=by
 unfold ba
 rw [List.find?_eq_none.mpr λp hp=>by rw [decide_eq_false (h p hp)];exact AK];rfl
theorem n7 {α:Type} {k:Int} {l:List (Int × α)} (h:¬ ∀ p∈l,p.1≠k):∃ a,ba l k=some a:=by
 cases e:ba l k with
 | some a=>exact ⟨a,rfl⟩
 | none=>
  refine (h λp hp q=>?_).elim
  unfold ba at e
  have:=List.find?_eq_none.mp (Option.map_eq_none_iff.mp e) p hp
  exact this (decide_eq_true q)
theorem fY {α:Type} {k:Int} {l m:List (Int × α)}:ba (l++m) k=(ba l k).or (ba m k):=by
 unfold ba
 rewrite [IC]
 cases l.find? λp=>decide (p.1=k) <;> rfl
theorem bc {α:Type} {k j:Int} {a:α} {l:List (Int × α)}:ba ((j,a)::l) k=if j=k then some a else ba l k:=by
 unfold ba
 rewrite [A8]
 by_cases q:j=k
 ·rw [decide_eq_true q,if_pos q];rfl
 ·rw [decide_eq_false q,if_neg q]
theorem qR {α:Type} {k:Int} {a:α} (j:Int):∀ l:List (Int × α),ba (l.map λp=>if p.1=k then (p.1,a) else p) j=if j=k then (ba l j).map λO=>a else ba l j
 | []=>by rw [Iy];split <;> rfl
 | (i,b)::l=>by
  rw [A0]
  by_cases q:i=k
  ·rw [if_pos q,bc,bc,qR j l]
   by_cases r:i=j
   ·rw [if_pos r,if_pos r,if_pos (r.symm.trans q)];rfl
   ·rw [if_neg r,if_neg r]
  ·rw [if_neg q,bc,bc,qR j l]
   by_cases r:i=j
   ·rw [if_pos r,if_pos r,if_neg (λz=>q (r.trans z))]
   ·rw [if_neg r,if_neg r]
theorem aa5 {α:Type} {k:Int} {a:α} (j:Int) (l:List (Int × α)):ba (sett l k a) j=if j=k then some a else ba l j:=by
 unfold sett
 by_cases q:l.any (λp=>decide (p.1=k))=true
 ·rw [if_pos q,qR]
  by_cases r:j=k
  ·rw [if_pos r,if_pos r,r]
   obtain ⟨b,e⟩:=n7 (l:=l) (k:=k) λz=>by
    show(an (List.any_eq_true.mp q) λp hp hq=>?_,z p hp (of_decide_eq_true hq))
   rw [e];rfl
  ·rw [if_neg r,if_neg r]
 ·rw [if_neg q,fY,bc]
  have h:∀ p∈l,p.1≠k:=λp hp z=>q (List.any_eq_true.mpr ⟨p,hp,decide_eq_true z⟩)
  by_cases r:j=k
  ·rw [if_pos r,if_pos r.symm,r,s9 h];rfl
  ·rw [if_neg r,if_neg (λz=>r z.symm)]
   cases ba l j <;> rfl
theorem qS {α:Type} {k:Int} {a:α} {l:List (Int × α)} {p:Int × α} (h:p∈sett l k a):p=(k,a)∨p∈l:=by
 unfold sett at h
 by_cases q:l.any (λp=>decide (p.1=k))=true
 ·rw [if_pos q] at h
  refine an (List.mem_map.mp h) λr hr q1'=>?_
  subst q1'
  by_cases z:r.1=k
  ·rw [if_pos z,z];exact .inl rfl
  ·rw [if_neg z];exact .inr hr
 ·rw [if_neg q] at h
  rcases List.mem_append.mp h with h | h
  ·exact .inr h
  ·exact .inl (List.mem_singleton.mp h)
theorem aa6 {α:Type} {k:Int} {a:α} {l:List (Int × α)} (h:(l.map Ar).Nodup):((sett l k a).map Ar).Nodup:=by
 unfold sett
 by_cases q:l.any (λp=>decide (p.1=k))=true
 ·rewrite [if_pos q,Aw,By (g:=Ar) λp O=>?_]
  ·exact h
  ·show (if p.1=k then (p.1,a) else p).1=p.1
   by_cases z:p.1=k
   ·rw [if_pos z]
   ·rw [if_neg z]
 ·rw [if_neg q,AT]
  refine List.nodup_append.mpr ⟨h,List.nodup_cons.mpr ⟨B5,BB⟩,λx hx y hy=>?_⟩
  rw [List.mem_singleton.mp hy]
  refine an (List.mem_map.mp hx) λp hp q1'=>?_
  subst q1'
  exact λz=>q (List.any_eq_true.mpr ⟨p,hp,decide_eq_true z⟩)
theorem wv {α:Type} (f:α->V) (k:Int) (a:α) (l:List (Int × α)):l9 (l.map λp=>(p.1,f p.2)) k (f a)=(sett l k a).map λp=>(p.1,f p.2):=by
 unfold l9 sett
 rw [EY]
 by_cases q:l.any (λp=>decide (p.1=k))=true
 ·rw [if_pos q,if_pos (show l.any ((λp:Int × V=>decide (p.1=k))∘λp=>(p.1,f p.2))=true from q),Aw,Aw]
  refine By λp O=>?_
  show (if p.1=k then (p.1,f a) else (p.1,f p.2))=((if p.1=k then (p.1,a) else p).1,f (if p.1=k then (p.1,a) else p).2)
  by_cases z:p.1=k
  ·rw [if_pos z,if_pos z]
  ·rw [if_neg z,if_neg z]
 ·rw [if_neg q,if_neg (show ¬ l.any ((λp:Int × V=>decide (p.1=k))∘λp=>(p.1,f p.2))=true from q),AT];rfl
noncomputable def jm {α:Type} (l:List (Int × α)) (k:Int):List (Int × α):=l.filter λp=>decide (p.1≠k)
theorem wx {α:Type} (f:α->V) (k:Int) (l:List (Int × α)):ma (l.map λp=>(p.1,f p.2)) k=(jm l k).map λp=>(p.1,f p.2):=by
 unfold ma jm;rw [Jc];rfl
theorem jM {α:Type} {k:Int} (j:Int):∀ l:List (Int × α),ba (jm l k) j=if j=k then none else ba l j
 | []=>by split <;> rfl
 | (i,b)::l=>by
  unfold jm
  rw [AM]
  by_cases q:i=k
  ·rw [if_neg (by simp [q])]
   have:=jM (k:=k) j l
   unfold jm at this
   rw [this,bc]
   by_cases r:j=k
   ·rw [if_pos r,if_pos r]
   ·rw [if_neg r,if_neg r,if_neg (λz=>r (z.symm.trans q))]
  ·rw [if_pos (by simp [q]),bc,bc]
   have:=jM (k:=k) j l
   unfold jm at this
   rw [this]
   by_cases r:i=j
   ·rw [if_pos r,if_pos r,if_neg (λz=>q (r.trans z))]
   ·rw [if_neg r,if_neg r]
theorem aeu:∀ (n:Nat) (l:List Int),l.Nodup->(∀ x∈l,0≤x∧x <n)->l.length≤n
 | 0,[],_,_=>AL _
 | 0,x::l,_,h=>absurd (Az (h x (.head _)).1 (h x (.head _)).2) (Int.lt_irrefl _)
 | n+1,l,d,h=>by
  have h1:=aeu n (l.erase (n:Int)) (d.erase _) λx hx=>by
   have h2:=(d.mem_erase_iff.mp hx)
   exact ⟨(h x h2.2).1,Int.lt_iff_le_and_ne.mpr ⟨Ck (h x h2.2).2,h2.1⟩⟩
  rw [List.length_erase] at h1
  by_cases z:(n:Int)∈l
  ·rw [if_pos z] at h1;exact Nat.le_add_of_sub_le h1
  ·rw [if_neg z] at h1;exact ID h1
structure cK (s:OS) (t:Int):Prop where
 top:s.top=some t
 t0:0≤t
 t1:t≤1000
 few:(s.objs.length:Int)≤t
 rng:∀ k o,s.get k=some o->1≤k∧k≤t
 ok:∀ k o,s.get k=some o->dw o
structure Upd (s s':OS) (k:Int) (o':Ob):Prop where
 eq:∃ l,s'={ s with objs:=l }∧l.length=s.objs.length
 get:∀ j,s'.get j=if j=k then some o' else s.get j
theorem Upd.okS {s s':OS} {k t:Int} {o o':Ob} (u:Upd s s' k o') (h:s.get k=some o) (ok:cK s t) (ok':dw o'):cK s' t:=by
 refine an u.eq λl q1' hl=>?_
 subst q1'
 refine ⟨ok.top,ok.t0,ok.t1,by show (l.length:Int)≤t;rw [hl];exact ok.few,λj q hj=>?_,λj q hj=>?_⟩
 ·rw [u.get] at hj
  by_cases z:j=k
  ·rw [z];exact ok.rng _ _ h
  ·rw [if_neg z] at hj;exact ok.rng _ _ hj
 ·rw [u.get] at hj
  by_cases z:j=k
  ·rw [if_pos z] at hj;cases hj;exact ok'
  ·rw [if_neg z] at hj;exact ok.ok _ _ hj
theorem qT {α:Type} {k:Int} {a:α}:∀ {l:List (Int × α)},ba l k=some a->∃ l1 l2,l=l1++(k,a)::l2∧ba l1 k=none
 | [],h=>by cases h
 | (j,b)::l,h=>by
  rw [bc] at h
  by_cases q:j=k
  ·rw [if_pos q] at h;cases h;subst q;exact ⟨[],l,rfl,rfl⟩
  ·rw [if_neg q] at h
   refine oq (qT h) λl1 l2 q1' e=>?_
   subst q1'
   exact ⟨(j,b)::l1,l2,rfl,by rw [bc,if_neg q];exact e⟩
theorem aev {a b c:Addr × aj} {M N:ah}:(a::b::c::(M++N)).Perm (M++a::b::c::N):=by
 have:=(Ef (l₁:=[a,b,c]) (l₂:=M)).append_right N
 rwa [Aq,Aq] at this
theorem aew {s:OS} {k:Int} {o:Ob} (h:s.get k=some o):∃ R,(aQ s).Perm (rD o++R)∧(s.x,aj.inst 1639 s.d (osF s))∈R∧∀ o':Ob,o'.ch=o.ch->∃ s',(rD o'++R).Perm (aQ s')∧Upd s s' k o':=by
 refine oq (qT h) λl1 l2 e e1=>?_
 have p:∀ o':Ob,o'.ch=o.ch->(aQ { s with objs:=l1++(k,o')::l2 }).Perm (rD o'++((s.x,.inst 1639 s.d (osF s))::(s.shp,.inst 500 s.shd shF)::(s.cg,.dI (xl s.objs))::(gK l1++gK l2))):=λo' ho=>by
  have e2:xl (l1++(k,o')::l2)=xl s.objs:=by rw [e];unfold xl;rw [AT,AT,A0,A0,ho]
  have e3:gK (l1++(k,o')::l2)=gK l1++(rD o'++gK l2):=by unfold gK;rw [Bx,Bs]
  show ((s.x,.inst 1639 s.d (osF s))::(s.shp,.inst 500 s.shd shF)::(s.cg,.dI (xl (l1++(k,o')::l2)))::gK (l1++(k,o')::l2):ah).Perm _
  rw [e2,e3]
  have p1:(gK l1++(rD o'++gK l2)).Perm (rD o'++(gK l1++gK l2)):=by
   rw [← Aq,← Aq]
   exact List.perm_append_comm.append_right _
  show((AG _ (AG _ (AG _ p1))).trans,aev)
 refine ⟨_,?_,.head _,λo' ho=>⟨_,(p o' ho).symm,⟨_,rfl,?_⟩,λj=>?_⟩⟩
 ·have:=p o rfl
  rw [← e] at this
  exact this
 ·rw [e,As,As];rfl
 ·show ba (l1++(k,o')::l2) j=if j=k then some o' else ba s.objs j
  rw [e,fY,fY,bc,bc]
  by_cases z:j=k
  ·rw [if_pos z,if_pos z.symm,z,e1];rfl
  ·rw [if_neg z,if_neg (λy=>z y.symm),if_neg (λy=>z y.symm)]
theorem ci {c:Cx} {L M N:ah} (h:L.Perm (M++N)):∀ p∈M,p∈c.R++L:=λO hp=>Aa _ (h.mem_iff.mpr (Ag _ hp))
section
variable {c:Cx} {n:Nat} {L L0:ah}
theorem wy {s:OS} {k:Int} {o:Ob} {b:List UInt8} (hL:L.Perm (aQ s++L0)) (h:s.get k=some o) (hb:b.length≤32) {Q:ad} {X:ac} (kk:∀ s',Upd s s' k { o with bonus:=b }->Q .none (aQ s'++L0)):ae c (n+2) (.ref 1589) [.obj s.x,.int k,.bytes b] L Q X:=by
 show[ec (aew h) λR p1 mx p2=>?_,an (p2 { o with bonus:=b } rfl) λs' p3 u=>?_]
 have hm:=ci (c:=c) hL
 refine ae.norm (fm λa=>@aa _ _ _ _ _ _ _ _ _ _ 12 ?_).fn
 intro GL
 show[cJ (Ai hb (by decide)),cQ (Int.not_lt.mpr (Int.ofNat_le.mpr hb)),mu,aU (.inst (by exact hm _ (.head _)) rfl rfl rfl),fX (by exact hm) h,aI (by exact hm _ (dO h (.head _))) rfl rfl]
 have pk:L.Perm ((o.dn,.inst 1168 o.dnd (sy o.kind o.block (-1) o.bonus))::(o.ch,.inst 1481 o.chd (chF o))::(o.bl,.dI (cG o.blocks))::(R++L0)):=hL.trans ((p1.append_right L0).trans (by rw [Aq];exact .swap _ _ _))
 show[an (mC pk) λL₁ q1 q2=>?_,ak q1 rfl,⟨aQ s'++L0,.of ?_,kk s' u⟩,GH (AG _ q2) (GH (.swap _ _ _) ?_)]
 have:=p3.append_right L0
 rw [Aq] at this
 exact this
end
theorem qU {blk blk':Int->List UInt8} {bs i0:Int} {s:Int} {f:Int->UInt8} (b0:0 <bs) (s0:0≤s) (hs:i0 % bs+s≤bs) (h1:∀ p,p≠i0 / bs->blk' p=blk p)
 (h2:∀ m:Nat,(m:Int) <bs->(blk' (i0 / bs)).getD m 0=if i0 % bs≤m∧m <i0 % bs+s then f (i0+(m - i0 % bs)) else (blk (i0 / bs)).getD m 0) (j:Int):
 fy blk' bs j=if i0≤j∧j <i0+s then f j else fy blk bs j:=by
 unfold fy
 by_cases z:j / bs=i0 / bs
 ·have e1:=Ce j bs
  have e0:=Ce i0 bs
  rw [z] at e1 ⊢
  refine aE (exN (Bh j (ne0 b0))) λm hm=>?_
  rw [hm] at e1 ⊢
  rw [AX,h2 m (hm▸AW j b0)]
  have c1:=anp e0 e1
  have c2:j <i0+s↔_:=anq e0 e1
  by_cases q:i0≤j∧j <i0+s
  ·rw [if_pos q,if_pos ⟨c1.mp q.1,c2.mp q.2⟩]
   exact congrArg f (aka e0 e1)
  ·rw [if_neg q,if_neg λw=>q ⟨c1.mpr w.1,c2.mpr w.2⟩]
 ·rw [h1 _ z,if_neg]
  exact λq=>z (qQ b0 q.1 (Bv q.2 (by rw [E1,BJ];exact Ct (Int.le_neg_add_of_add_le hs) _))).1
theorem jn {α:Type} {l:List α} {k:Nat} (h:k≤l.length):aC l none (some (k:Int))=l.take k:=by
 unfold aC
 show (l.drop 0).take (Cq _ _ - 0)=_
 rw [dJ _ _ h,Ea];rfl
theorem ls {α:Type} {l:List α} {k:Nat} (h:k≤l.length):aC l (some (k:Int)) none=l.drop k:=by
 unfold aC
 show (l.drop (Cq _ _)).take (l.length - Cq _ _)=_
 rw [dJ _ _ h,Cc (BM B8)]
theorem ta {α:Type} {l:List α} {k s:Nat} (h:k+s≤l.length):aC l (some (k:Int)) (some ((k:Int)+s))=(l.drop k).take s:=by
 unfold aC
 show (l.drop (Cq _ _)).take (Cq _ _ - Cq _ _)=_
 rw [dJ _ _ (Ai (BV ..) h),show (k:Int)+s=((k+s:Nat):Int) from rfl,dJ _ _ h,D6]
theorem aex {b oc:List UInt8} {beg s d:Nat} (h1:beg+s≤b.length) (h2:d+s≤oc.length) (m:Nat):(b.take beg++(oc.drop d).take s++b.drop (beg+s)).getD m 0=if beg≤m∧m <beg+s then oc.getD (d+(m - beg)) 0 else b.getD m 0:=by
 rw [Aq,Ak,Ak,Ak,Cm,BI (Ai (BV ..) h1),Cm,BI (by rw [B8];exact Dm h2),H4,H4,Dc,Dc]
 by_cases q:m <beg
 ·rw [if_pos q,if_pos q,if_neg λz=>Nat.not_lt.mpr z.1 q]
 ·have c:=Gu (c:=s) (Nat.not_lt.mp q)
  rw [if_neg q]
  by_cases r:m - beg <s
  ·rw [if_pos r,if_pos r,if_pos ⟨Nat.not_lt.mp q,c.mp r⟩]
  ·rw [if_neg r,if_neg λz=>r (c.mpr z.2),IS,Ed (Nat.not_lt.mp λz=>r (c.mpr z))]
theorem zi {b oc:List UInt8} {beg s d:Nat} (h1:beg+s≤b.length) (h2:d+s≤oc.length):(b.take beg++(oc.drop d).take s++b.drop (beg+s)).length=b.length:=by
 rw [As,As,BI (Ai (BV ..) h1),BI (by rw [B8];exact Dm h2),B8,Ed h1]
theorem mD {o:Ob} {k:Int} {b:List UInt8} {m:Int} (p:Int):bR { o with blocks:=sett o.blocks k b,most:=m } p=if p=k then b else bR o p:=by
 unfold bR
 rw [aa5]
 by_cases q:p=k
 ·rw [if_pos q,if_pos q];rfl
 ·rw [if_neg q,if_neg q]
theorem dw.sett {o:Ob} (ok:dw o) {k:Int} {b:List UInt8} {m:Int} (hb:(b.length:Int)=o.block) (hk:0≤k∧k <1000) (hm:m=max o.most k):dw { o with blocks:=Mine.sett o.blocks k b,most:=m }:=by
 refine ⟨ok.b0,ok.b1,ok.bon,λp hp=>?_,λp hp=>?_,aa6 ok.keys,λp hp=>?_⟩
 ·rcases qS hp with rfl | h
  ·exact hb
  ·exact ok.full p h
 ·show p.1≤m
  rcases qS hp with rfl | h
  ·rw [hm];exact Int.le_max_right _ _
  ·rw [hm];exact Au (ok.most p h) (GI _ _)
 ·rcases qS hp with rfl | h
  ·exact hk
  ·exact ok.rng p h
theorem dw.few {o:Ob} (ok:dw o):o.blocks.length≤1000:=by
 have:=aeu 1000 (o.blocks.map Ar) ok.keys λx hx=>by
  refine an (List.mem_map.mp hx) λp hp q1'=>?_
  subst q1'
  exact ok.rng p hp
 rwa [Af] at this
theorem aey {bs:Int} {k:Nat} {i e:Int} {t:wn} {r:List wn} (h:prt bs k i e=t::r):i <e∧t=(i / bs,i % bs,i % bs+min (bs - i % bs) (e - i))∧∃ k',k=k'+1∧r=prt bs k' (i+min (bs - i % bs) (e - i)) e:=by
 cases k with
 | zero=>cases h
 | succ k=>
  unfold prt at h
  by_cases q:i <e
  ·rw [if_pos q] at h
   cases h
   exact ⟨q,rfl,k,rfl,rfl⟩
  ·rw [if_neg q] at h;cases h
theorem ah6 {bs:Int} {k:Nat} {i e:Int} (h:prt bs k i e=[]) (hk:(e - i).toNat≤k):e≤i:=by
 cases k with
 | zero=>exact Int.le_of_sub_nonpos (Int.toNat_le.mp hk)
 | succ k=>
  unfold prt at h
  by_cases q:i <e
  ·rw [if_pos q] at h;cases h
  ·exact Int.not_lt.mp q
theorem tc {bs:Int} (b0:0 <bs):∀ {k:Nat} {i e:Int} {t:wn},0≤i->t∈prt bs k i e->0≤t.1∧t.1≤e
 | 0,_,_,_,_,h=>by cases h
 | k+1,i,e,t,h0,h=>by
  unfold prt at h
  by_cases q:i <e
  ·rw [if_pos q] at h
   cases h with
   | head=>exact ⟨EM h0 (Bf b0),Au (Gc bs h0) (Bf q)⟩
   | tail _ h=>exact tc b0 (CH h0 (Int.le_min.mpr ⟨BO (Bf (AW i b0)),BO (Bf q)⟩)) h
  ·rw [if_neg q] at h;cases h
section
variable {c:Cx} {n:Nat} {L L0:ah}
theorem kt {Q:ad} {X:ac} (kk:Q (.int 4194304) L):ae c (n+1) (.ref 1200) [.int 4] L Q X:=by
 refine (nD λa=>@aa _ _ _ _ _ _ _ _ _ _ 12 ?_).fn
 intro GL
 show(yZ (by decide) (by decide) (by decide) (by decide),xZ,kq (congrArg V.int (by decide)) kk)
end
theorem wz {a b x:Addr × aj} {M:ah}:(a::b::x::M).Perm (x::a::b::M):=((Bp x b M).cons a).trans (.swap x a _)
theorem zj {α:Type} {l:List α} {i:Nat} {x:α} (h:l[i]?=some x):l.drop i=x::l.drop (i+1):=by
 refine aE (List.getElem?_eq_some_iff.mp h) λhi q1'=>?_
 subst q1'
 exact DF hi
structure wB (o o':Ob) (f:Int->UInt8):Prop where
 eq:∃ bl m,o'={ o with blocks:=bl,most:=m }
 ok:dw o'
 cont:∀ j,Mine.cont o' j=f j
noncomputable def jo (f:Int->UInt8) (i:Int) (oc:List UInt8) (j:Int):UInt8:=if i≤j∧j <i+oc.length then oc.getD (j - i).toNat 0 else f j
theorem aez {f:Int->UInt8} {i j:Int}:jo f i [] j=f j:=if_neg λz=>Int.not_lt.mpr z.1 (by have y:j <i+0:=z.2;rwa [A9] at y)
theorem zl {f:Int->UInt8} {i j:Int} {oc:List UInt8} (h:j <i):jo f i oc j=f j:=if_neg λz=>Int.not_lt.mpr z.1 h
theorem zm {f:Int->UInt8} {i:Int} {oc:List UInt8} {k:Nat}:jo f i oc (i+k)=if k <oc.length then oc.getD k 0 else f (i+k):=by
 unfold jo
 rw [tz,AX]
 by_cases z:k <oc.length
 ·rw [if_pos z,if_pos ⟨Bd (Av k),CV (Int.ofNat_lt.mpr z) i⟩]
 ·rw [if_neg z,if_neg λw=>z (Int.ofNat_lt.mp (Fp w.2))]
theorem n8 {l:List UInt8} {d k:Nat} (h:k <d):(l.take d).getD k 0=l.getD k 0:=by rw [Ak,CU h,← Ak]
theorem ae0 {f:Int->UInt8} {i j:Int} {oc:List UInt8} {d s:Nat} (h:d+s≤oc.length):(if i+d≤j∧j <i+d+s then oc.getD (j - i).toNat 0 else jo f i (oc.take d) j)=jo f i (oc.take (d+s)) j:=by
 by_cases q:i≤j
 ·refine aE (exA q) λk e=>?_
  subst e
  rw [zm,zm,BI h,BI (Ai (BV ..) h),tz,AX]
  by_cases z:k <d
  ·have z2:=B1 z (BV d s)
   rw [if_neg λw=>Nat.not_lt.mpr (Int.ofNat_le.mp (DD w.1)) z,if_pos z,if_pos z2,n8 z,n8 z2]
  ·rw [if_neg z]
   by_cases y:k <d+s
   ·rw [if_pos y,if_pos ⟨Ct (Int.ofNat_le.mpr (Nat.not_lt.mp z)) i,by rw [BJ];exact CV (Int.ofNat_lt.mpr y) i⟩,n8 y]
   ·rw [if_neg y,if_neg λw=>y (Int.ofNat_lt.mp (Fp (BJ ..▸w.2:i+(k:Int) <i+(d+s:Int))))]
 ·have q:=Int.not_le.mp q
  rw [zl q,zl q,if_neg λw=>Int.not_le.mpr q (Au (Bd (Av d)) w.1)]
section
variable {c:Cx} {n:Nat} {L L0:ah}
theorem ajz {X:ac} {a:Addr} {bl:List (Int × List UInt8)} {L₁:ah} {k:Int} {b:List UInt8} {Q:ah->Prop} (hp:bW L a (.dI (cG bl)) L₁) (hz:bl.length≤1000) (h:Q ((a,.dI (cG (sett bl k b)))::L₁)):g8 c n (.obj a) (.int k) (.bytes b) L Q X:=by
 show[y4 hp (by rw [Af];exact Ai hz (by decide))]
 rw [wv V.bytes k b bl]
 exact h
inductive amk (s:OS) (k i:Int) (o:Ob) (oc:List UInt8) (M:ah) (W:List wn) (r:Nat) (m:Loc) (L':ah):Prop
 | mk (d:Nat) (o1:Ob) (h0:m.lookup ("self":Str)=some (.obj s.x)) (h1:m.lookup ("number":Str)=some (.int k)) (h2:m.lookup ("octets":Str)=some (.bytes oc)) (h3:m.lookup ("change":Str)=some (.obj o.ch)) (h4:m.lookup ("done":Str)=some (.int d)) (h5:L'.Perm (rD o1++M)) (h6:wB o o1 (jo (cont o) i (oc.take d))) (h7:d≤oc.length) (kk:Nat) (h8:W.drop r=prt o.block kk (i+d) (i+oc.length)) (h9:oc.length - d≤kk)
inductive aml (s:OS) (k:Int) (o:Ob) (oc:List UInt8) (L:ah) (W:List wn) (m:Loc) (L':ah):Prop
 | mk (y e:Addr) (h0:m.lookup ("self":Str)=some (.obj s.x)) (h1:m.lookup ("number":Str)=some (.int k)) (h2:m.lookup ("octets":Str)=some (.bytes oc)) (h3:m.lookup ("rows":Str)=some (.list (W.map zg))) (h4:m.lookup ("done":Str)=some (.int (0:Nat))) (h5:L'=(y,.inst 1168 e (sy o.kind o.block o.most o.bonus))::L)
theorem ed {s:OS} {k i:Int} {o:Ob} {oc:List UInt8} (hL:L.Perm (aQ s++L0)) (h:s.get k=some o) (ok:dw o) (h0:0≤i) (h1:i+oc.length <1000) {Q:ad} {X:ac} (kk:∀ s' o',Upd s s' k o'->wB o o' (jo (cont o) i oc)->Q .none (aQ s'++L0)):ae c (n+6) (.ref 1596) [.obj s.x,.int k,.int i,.bytes oc] L Q X:=by
 refine ec (aew h) λR p1 mx p2=>?_
 have hm:=ci (c:=c) hL
 have hoc:oc.length≤1000:=leN h0 h1
 have l1:n+1≤n+5:=lE n 1 5 rfl
 generalize hw:prt o.block oc.length i (i+oc.length)=W
 have wl:W.length≤1000:=by rw [← hw];exact Ai (pv _ _ _ _) hoc
 have wp0:∀ t∈W,0≤t.1∧t.1 <1000:=λt ht=>by
  rw [← hw] at ht
  exact (tc ok.b0 h0 ht).imp id λz=>Az z h1
 refine ae.norm (i7 λa=>nZ 12 2 (aml s k o oc L W) ?_ λm1 L1 J=>@aa _ _ _ _ _ _ _ _ _ _ 12 ?_).fn
 rotate_left
 ·intro GL
  obtain ⟨y,e,i1,i2,i3,i4,i5,rfl⟩:=J
  have hm2:∀ p∈aQ s,p∈c.R++((y,aj.inst 1168 e (sy o.kind o.block o.most o.bonus))::L):=λp hp=>bC (hm p hp)
  have pk:((y,aj.inst 1168 e (sy o.kind o.block o.most o.bonus))::L).Perm (rD o++((y,aj.inst 1168 e (sy o.kind o.block o.most o.bonus))::(R++L0))):=by
   show[(AG _ (hL.trans (p1.append_right L0))).trans]
   rw [Aq]
   exact List.perm_middle.symm
  have mx2:(s.x,aj.inst 1639 s.d (osF s))∈(y,aj.inst 1168 e (sy o.kind o.block o.most o.bonus))::(R++L0):=.tail _ (Ag _ mx)
  generalize hM:(y,aj.inst 1168 e (sy o.kind o.block o.most o.bonus))::(R++L0)=M at pk mx2
  show[aV i1,aU (.inst (by exact hm2 _ (.head _)) rfl rfl rfl),aV i2,(fX (by exact hm2) h ?_).le l1,aV i4,ph bn,exL (amk s k i o oc M W)]
  intro JJ
  refine Ah ⟨0,o,i1,i2,i3,rfl,i5,pk,⟨⟨o.blocks,o.most,rfl⟩,ok,λj=>?_⟩,BQ _,oc.length,?_,H5 _ _⟩ (Ah (λr x m1 L2 hx J=>?_) λm1 L2 J=>?_)
  ·exact aez.symm
  ·rw [Ea,← hw];congr 1;exact (A9 i).symm
  ·intro GJ
   obtain ⟨d,o1,j1,j2,j3,j4,j5,j6,j7,j8,kn,j9,j10⟩:=J
   rw [AE] at hx
   refine an (Option.map_eq_some_iff.mp hx) λt ht q1'=>?_
   subst q1'
   have tp:=wp0 t (Bc ht)
   rw [zj ht] at j9
   obtain ⟨e1,e2,kk',rfl,e3⟩:=aey j9.symm
   obtain ⟨⟨bl,mo,rfl⟩,ok1,ct1⟩:=j7
   have hp:=akb (AW (i+d) ok.b0) e1
   show[aE (exN (Bf hp)) λs1 hs1=>?_,aE (exN (Bh (i+d) (ne0 ok.b0))) λbe hbe=>?_]
   rw [hs1,hbe] at e2
   rw [hs1] at e3
   subst e2
   have bb:=ok.b1
   generalize hb:bR { o with blocks:=bl,most:=mo } ((i+d) / o.block)=b
   have lb:(b.length:Int)=o.block:=by rw [← hb];exact ok1.len _
   have f1:be+s1≤b.length:=ar1 (hbe▸hs1) lb
   have f2:d+s1≤oc.length:=ar2 hs1
   have b9:b.length≤1000000:=Int.ofNat_le.mp (by rw [lb];exact Au bb (by decide))
   show[aV j1,aU (.inst (by exact Aa _ (j6.mem_iff.mpr (Aa _ mx2))) rfl rfl rfl),aV j2,aV j4,(lr (by exact ci j6) ok1 ?_).le l1,aV j3,aV j5,Am _ (Ah rfl ?_),aV j5,Am _ (Ah rfl ?_),dE (Ai hoc (by decide)),mu]
   rw [hb]
   have g1:aC oc (some (d:Int)) (some ((d:Int)+((be:Int)+s1) - be))=(oc.drop d).take s1:=by
    rw [dbs,ta f2]
   have g2:aC b none (some (be:Int))=b.take be:=jn (Ai (BV ..) f1)
   have g3:aC b (some ((be:Int)+s1)) none=b.drop (be+s1):=ls (k:=be+s1) f1
   show[Am _ (Ah rfl ?_),dE b9]
   rw [g2]
   show[k8 (by rw [g1];exact Ai (CK (CX ..) (CX ..)) (Ai f1 b9)),Am _ (Ah rfl ?_),dE b9]
   rw [g1,g3]
   show[k8 (by rw [← As,zi f1 f2];exact b9)]
   have nl:=zi f1 f2
   have ng:=aex f1 f2
   generalize hnb:b.take be++(oc.drop d).take s1++b.drop (be+s1)=nb at nl ng
   show[aV j4,aI (by exact ci j6 _ (.head _)) rfl rfl]
   have pk1:L2.Perm ((o.bl,.dI (cG bl))::(o.ch,.inst 1481 o.chd (chF { o with blocks:=bl,most:=mo }))::(o.dn,.inst 1168 o.dnd (sy o.kind o.block (-1) o.bonus))::M):=j6.trans wz
   show[an (mC pk1) λL₁ q1 q2=>?_,ajz q1 ok1.few]
   have pk2:((o.bl,aj.dI (cG (sett bl ((i+d) / o.block) nb)))::L₁).Perm ((o.ch,.inst 1481 o.chd (chF { o with blocks:=bl,most:=mo }))::(o.bl,.dI (cG (sett bl ((i+d) / o.block) nb)))::(o.dn,.inst 1168 o.dnd (sy o.kind o.block (-1) o.bonus))::M):=(q2.cons _).trans (.swap _ _ _)
   show[aV j4,aI (by exact Aa _ (pk2.mem_iff.mpr (.head _))) rfl rfl,aaf,aV j4,an (mC pk2) λL₂ q3 q4=>?_,ak q3 rfl,aV j5]
   have oke:=ok1.sett (k:=(i+d) / o.block) (b:=nb) (m:=max mo ((i+d) / o.block)) (by rw [nl];exact lb) tp rfl
   refine ⟨d+s1,{ o with blocks:=sett bl ((i+d) / o.block) nb,most:=max mo ((i+d) / o.block) },j1,j2,j3,j4,?_,(q4.cons _).trans ((Bp _ _ _).cons _),⟨⟨_,_,rfl⟩,oke,λj=>?_⟩,f2,kk',?_,anr (Int.ofNat_lt.mp (hs1▸hp)) j10⟩
   ·exact congrArg (λz=>some (V.int z)) dbs
   ·have hp:=qU (blk:=bR { o with blocks:=bl,most:=mo }) (blk':=bR { o with blocks:=sett bl ((i+d) / o.block) nb,most:=max mo ((i+d) / o.block) }) (i0:=i+d) (s:=s1) (f:=λj=>oc.getD (j - i).toNat 0) ok.b0 (Av _) (by rw [hbe,← lb];exact Int.ofNat_le.mpr f1) (λp hp=>by rw [mD (o:={ o with blocks:=bl,most:=mo }),if_neg hp]) (λm hm=>by
     rw [mD (o:={ o with blocks:=bl,most:=mo }),if_pos rfl,ng m,hb,hbe]
     by_cases z:be≤m∧m <be+s1
     ·rw [if_pos z,if_pos ⟨Int.ofNat_le.mpr z.1,Int.ofNat_lt.mpr z.2⟩]
      exact congrArg (λx=>oc.getD x 0) (by rw [← Int.ofNat_sub z.1,BJ,tz];rfl)
     ·rw [if_neg z,if_neg λw=>z ⟨Int.ofNat_le.mp w.1,Int.ofNat_lt.mp w.2⟩]) j
    show[hp.trans]
    have hc:fy (bR { o with blocks:=bl,most:=mo }) o.block j=jo (cont o) i (oc.take d) j:=ct1 j
    rw [hc]
    exact ae0 f2
   ·rw [e3,BJ];rfl
  ·obtain ⟨d,o1,j1,j2,j3,j4,j5,j6,j7,j8,kn,j9,j10⟩:=J
   rw [Af,Ge] at j9
   have hd:=ah6 j9.symm (by rw [arw];exact j10)
   rw [Cc (Int.ofNat_le.mp (DD hd))] at j7
   show[an (p2 o1 (by obtain ⟨_,_,rfl⟩:=j7.eq;rfl)) λs' q1 u=>?_,⟨aQ s'++L0,?_,kk s' o1 u j7⟩,⟨[(y,aj.inst 1168 e (sy o.kind o.block o.most o.bonus))],j6.trans ?_⟩]
   rw [← hM]
   refine List.perm_middle.trans (AG _ ?_)
   rw [← Aq]
   exact q1.append_right L0
 intro GL
 show[oY (Am _ (Ah rfl ?_)),cJ (Ai hoc (by decide)),aU (.inst (by exact hm _ (.head _)) rfl rfl rfl),uI (by exact hm) h ok λy e=>?_,aI (Aa _ (.head _)) rfl rfl,(kr h0 (Av _) (Int.ofNat_le.mpr (Ai hoc (by decide))) ok.b0 (Au ok.b1 (by decide)) ?_).le l1]
 rw [AX,hw]
 refine Am _ (Ah rfl (Ah rfl ?_))
 have hm2:∀ p∈aQ s,p∈c.R++((y,aj.inst 1168 e (sy o.kind o.block o.most o.bonus))::L):=λp hp=>bC (hm p hp)
 show[xk (pd ?_),xj (λq=>?_) λO=>⟨y,e,rfl,rfl,rfl,rfl,rfl,rfl⟩]
 have hne:W≠[]:=λz=>by rw [z] at q;exact AK q
 have hpos:=List.length_pos_iff.mpr hne
 show[qv]
 refine sQ (by rw [Af];exact Ai wl (by decide)) (by decide) (by rw [Af];exact Int.neg_le_neg (Int.ofNat_le.mpr hpos)) (v:=zg (W.getLast hne)) (by
  rw [Af,arv hpos,AE,← List.getLast?_eq_getElem?,List.getLast?_eq_getLast hne];rfl) ?_
 show(eH (by show 3≤_;decide) rfl (by decide) rfl,aI (by exact hm2 _ (.head _)) rfl rfl,aI (by exact hm2 _ (.tail _ (.head _))) rfl rfl,(kt ?_).le l1,cQ (arz (wp0 _ (List.getLast_mem hne)).2 (by decide)),⟨y,e,rfl,rfl,rfl,rfl,rfl,rfl⟩)
end
section
variable {c:Cx} {n:Nat} {L L0:ah}
theorem gN {s:OS} {t:Int} (hm:∀ p∈aQ s,p∈c.R++L) (ht:s.top=some t) {Q:ad} {X:ac} (kk:Q (.int t) L):ae c (n+1) (.ref 1567) [.obj s.x] L Q X:=by
 refine (cS λa=>@aa _ _ _ _ _ _ _ _ _ _ 12 ?_).fn
 intro GL
 show(aI (by exact hm _ (.head _)) rfl rfl,fE (by rw [ht];rfl),aI (by exact hm _ (.head _)) rfl rfl,kq (by rw [ht];rfl) kk)
structure Add (s s':OS) (k:Int) (o:Ob) (block:Int) (bonus:List UInt8):Prop where
 eq:s'={ s with top:=some k,objs:=s.objs++[(k,o)] }
 ok:dw o
 block:o.block=block
 bonus:o.bonus=bonus
 cont:∀ j,cont o j=0
theorem ae1 (k j:Nat):(Bt k (0:UInt8)).getD j 0=0:=by
 rw [Ak,List.getElem?_replicate]
 by_cases q:j <k
 ·rw [if_pos q];rfl
 ·rw [if_neg q];rfl
theorem ah7 {o:Ob} (h:o.blocks=[]) (b0:0 <o.block) (b1:o.block≤128) (hb:o.bonus.length≤32):dw o:=by
 have z:∀ {P:Int × List UInt8->Prop},∀ p∈o.blocks,P p:=λp hp=>by rw [h] at hp;cases hp
 exact ⟨b0,b1,hb,z,z,by rw [h];exact BB,z⟩
theorem qV {s:OS} {t k kind block:Int} {bonus:List UInt8} (hL:L.Perm (aQ s++L0)) (ok:cK s t) (ht:t <1000) (hk:k=t+1) (hn:s.get k=none) (k0:0 <kind) (k1:kind <18) (b0:0 <block) (b1:block≤128) (hb:bonus.length≤32) {Q:ad} {X:ac} (kk:∀ s' o,Add s s' k o block bonus->Q .none (aQ s'++L0)):ae c (n+4) (.ref 1575) [.obj s.x,.int k,.int kind,.int block,.bytes bonus] L Q X:=by
 have hm:=ci (c:=c) hL
 have t0:=ok.t0
 have l1:n+1≤n+3:=lE n 1 3 rfl
 have l2:n+2≤n+3:=lE n 2 3 rfl
 refine ae.norm (iy λa=>@aa _ _ _ _ _ _ _ _ _ _ 12 ?_).fn
 intro GL
 show[d0 k0,fE (b:=!decide (kind <18)) (by rw [decide_eq_true k1];rfl),d0 b0,fE (b:=!decide (block <65536)) (by rw [decide_eq_true (show block <65536 from Az b1 (by decide))];rfl),cQ (show ¬ k <1 from Int.not_lt.mpr (hk▸BH t0 1)) ?_,aU (.inst (by exact hm _ (.head _)) rfl rfl rfl),(wu (by exact hm) hn ?_).le l1,aI (by exact hm _ (.head _)) rfl rfl,aI (by exact hm _ (.tail _ (.head _))) rfl rfl,l8 (by decide) (Bu (by decide)),aI (by exact hm _ (.head _)) rfl rfl,aI (by exact hm _ (.tail _ (.head _))) rfl rfl,(kt ?_).le l1,cQ (show ¬ (4194304:Int)≤k / 4 from Int.not_le.mpr (Az (Au (Gc 4 (hk▸Fi t0)) (hk▸ht)) (by decide:(1000:Int) <_))) ?_,aU (.inst (by exact hm _ (.head _)) rfl rfl rfl),(gN (by exact hm) ok.top ?_).le l1,aaf,an (mC (a:=s.x) (x:=.inst 1639 s.d (osF s)) (M:=(s.shp,.inst 500 s.shd shF)::(s.cg,.dI (xl s.objs))::(gK s.objs++L0)) (hL.trans (by exact .refl _))) λL₁ q1 q2=>?_,ak q1 rfl,qv,mu,(aeq hb λx d=>?_).le l2,aI (Aa _ (.tail _ (.head _))) rfl rfl,lh (Aa _ (.tail _ (.tail _ (q2.mem_iff.mpr (.tail _ (.head _)))))),(aes (by rw [wt hn];rfl) λo o1 o2 o3 o4 o5 o6=>?_).le l2,aI (Aa _ (Aa _ (.head _))) rfl rfl]
 have pk:(rD o++(s.x,aj.inst 1639 s.d (mW (osF s) (Ab "top") (V.int (max t k))))::L₁).Perm ((s.cg,.dI (xl s.objs))::(s.x,aj.inst 1639 s.d (mW (osF s) (Ab "top") (V.int (max t k))))::(s.shp,.inst 500 s.shd shF)::(gK s.objs++rD o++L0)):=by
  show[((q2.cons _).append_left _).trans,(aev (N:=gK s.objs++L0)).symm.trans,wz.trans,AG _ (AG _ (AG _ ?_))]
  rw [← Aq]
  exact List.perm_append_comm.append_right L0
 refine an (mC pk) λL₂ q3 q4=>?_
 have few:=ok.few
 show[y4 q3 (by rw [Af];lia)]
 have e:l9 (xl s.objs) k (.obj o.ch)=xl (s.objs++[(k,o)]):=by
  have h:∀ p∈s.objs,p.1≠k:=λp hp z=>by
   have:∀ a,ba s.objs k≠some a:=λa=>by rw [show ba s.objs k=none from hn];exact λy=>by cases y
   show(aE (n7 (l:=s.objs) (k:=k) λy=>y p hp z) λa ha=>?_,this a ha)
  show[(wv (λo:Ob=>V.obj o.ch) k o s.objs).trans]
  unfold sett
  rw [if_neg (λy=>by refine an (List.any_eq_true.mp y) λp hp hq=>?_;exact h p hp (of_decide_eq_true hq))]
 rw [e]
 refine ⟨aQ { s with top:=some k,objs:=s.objs++[(k,o)] }++L0,.of ?_,kk _ o ⟨rfl,ah7 o4 (o2▸b0) (o2▸b1) (o3▸hb),o2,o3,λj=>?_⟩⟩
 ·show[(q4.cons _).trans]
  rw [show max t k=k from Cf (hk▸Fi (BG t))]
  refine (Bp _ _ _).trans (AG _ ((Bp _ _ _).trans (AG _ (AG _ ?_))))
  unfold gK
  rw [Bx,Bs,List.flatMap_nil,A6]
  exact .refl _
 ·unfold cont fy bR
  rw [o4]
  exact ae1 _ _
theorem Add.okS {s s':OS} {t b:Int} {o:Ob} {bo:List UInt8} (u:Add s s' (t+1) o b bo) (ok:cK s t) (ht:t <1000):cK s' (t+1):=by
 have h0:=ok.t0
 have hf:=ok.few
 rw [u.eq]
 refine ⟨rfl,Fi h0,ht,?_,λj q hj=>?_,λj q hj=>?_⟩
 ·show ((s.objs++[(t+1,o)]).length:Int)≤_
  rw [As];show ((s.objs.length+1:Nat):Int)≤_;exact BH hf 1
 ·have hj:ba (s.objs++[(t+1,o)]) j=some q:=hj
  rw [fY,bc] at hj
  by_cases z:t+1=j
  ·exact z▸⟨BH h0 1,BG _⟩
  ·rw [if_neg z] at hj
   cases e:ba s.objs j with
   | none=>rw [e] at hj;cases hj
   | some a=>exact ⟨(ok.rng j a e).1,Fi (ok.rng j a e).2⟩
 ·have hj:ba (s.objs++[(t+1,o)]) j=some q:=hj
  rw [fY,bc] at hj
  cases e:ba s.objs j with
  | none=>
   rw [e] at hj
   by_cases z:t+1=j
   ·rw [if_pos z] at hj;cases hj;exact u.ok
   ·rw [if_neg z] at hj;cases hj
  | some a=>rw [e] at hj;cases hj;exact ok.ok j _ e
theorem cK.fresh {s:OS} {t:Int} (ok:cK s t):s.get (t+1)=none:=by
 cases e:s.get (t+1) with
 | none=>rfl
 | some o=>have:=(ok.rng _ _ e).2;lia
theorem Add.get {s s':OS} {k b:Int} {o:Ob} {bo:List UInt8} (u:Add s s' k o b bo) (h:s.get k=none) (j:Int):s'.get j=if j=k then some o else s.get j:=by
 rw [u.eq]
 show ba (s.objs++[(k,o)]) j=_
 rw [fY,bc]
 by_cases z:j=k
 ·rw [if_pos z,if_pos z.symm,z,show ba s.objs k=none from h];rfl
 ·rw [if_neg z,if_neg λy=>z y.symm]
  show (ba s.objs j).or none=ba s.objs j
  cases ba s.objs j <;> rfl
theorem w_add {s:OS} {t kind block:Int} {bonus:List UInt8} (hL:L.Perm (aQ s++L0)) (ok:cK s t) (ht:t <1000) (k0:0 <kind) (k1:kind <18) (b0:0 <block) (b1:block≤128) (hb:bonus.length≤32) {Q:ad} {X:ac} (kk:∀ s' o,Add s s' (t+1) o block bonus->Q (.int (t+1)) (aQ s'++L0)):ae c (n+5) (.ref 1560) [.obj s.x,.int kind,.int block,.bytes bonus] L Q X:=by
 have hm:=ci (c:=c) hL
 refine (iZ λa=>@aa _ _ _ _ _ _ _ _ _ _ 12 ?_).fn
 intro GL
 show[aU (.inst (by exact hm _ (.head _)) rfl rfl rfl),aU (.inst (by exact hm _ (.head _)) rfl rfl rfl),(gN (by exact hm) ok.top ?_).le (lE n 1 4 rfl),qV hL ok ht rfl ok.fresh k0 k1 b0 b1 hb λs' o u=>?_]
 have e:=u.eq
 subst e
 show(aI (Aa _ (.head _)) rfl rfl,kk _ o u)
theorem amm {s:OS} {t kind block:Int} (hL:L.Perm (aQ s++L0)) (ok:cK s t) (ht:t <1000) (k0:0 <kind) (k1:kind <18) (b0:0 <block) (b1:block≤128) {Q:ad} {X:ac} (kk:∀ s' o,Add s s' (t+1) o block []->Q (.int (t+1)) (aQ s'++L0)):ae c (n+5) (.ref 1560) [.obj s.x,.int kind,.int block] L Q X:=by
 have hm:=ci (c:=c) hL
 have hb:([]:List UInt8).length≤32:=by decide
 refine (eD λa=>@aa _ _ _ _ _ _ _ _ _ _ 12 ?_).fn
 intro GL
 show[aU (.inst (by exact hm _ (.head _)) rfl rfl rfl),aU (.inst (by exact hm _ (.head _)) rfl rfl rfl),(gN (by exact hm) ok.top ?_).le (lE n 1 4 rfl),qV hL ok ht rfl ok.fresh k0 k1 b0 b1 hb λs' o u=>?_]
 have e:=u.eq
 subst e
 show(aI (Aa _ (.head _)) rfl rfl,kk _ o u)
theorem aa7 (l:List (Int × Ob)) (k:Int):Sub (gK (jm l k)) (gK l):=by
 have h:=(List.filter_append_perm (λp:Int × Ob=>decide (p.1≠k)) l).flatMap_right λp=>rD p.2
 rw [Bx] at h
 exact ⟨_,h.symm.trans Ef⟩
theorem wC {s:OS} {t k:Int} {o:Ob} (hL:L.Perm (aQ s++L0)) (ok:cK s t) (h:s.get k=some o) {Q:ad} {X:ac} (kk:Q .none (aQ { s with objs:=jm s.objs k }++L0)):ae c (n+2) (.ref 1582) [.obj s.x,.int k] L Q X:=by
 have hm:=ci (c:=c) hL
 refine ae.norm (ki λa=>@aa _ _ _ _ _ _ _ _ _ _ 12 ?_).fn
 intro GL
 show[aU (.inst (by exact hm _ (.head _)) rfl rfl rfl),gN (by exact hm) ok.top,aU (.inst (by exact hm _ (.head _)) rfl rfl rfl),fX (by exact hm) h,aI (by exact hm _ (dO h (.head _))) rfl rfl,aI (by exact hm _ (.head _)) rfl rfl,aU (.popI (by exact hm _ (.tail _ (.tail _ (.head _))))),an (mC (a:=s.cg) (x:=.dI (xl s.objs)) (M:=(s.x,.inst 1639 s.d (osF s))::(s.shp,.inst 500 s.shd shF)::(gK s.objs++L0)) (hL.trans (by exact wz))) λL₁ q1 q2=>?_]
 have few:=ok.few
 have t1:=ok.t1
 show[ajl q1 (by rw [Af];lia) (gL h)]
 rw [show ma (xl s.objs) k=xl (jm s.objs k) from wx (λo:Ob=>V.obj o.ch) k s.objs]
 show(aE (aa7 s.objs k) λg hg=>?_,⟨aQ { s with objs:=jm s.objs k }++L0,⟨g,?_⟩,kk⟩,(q2.cons _).trans,wz.symm.trans,GH (AG _ (AG _ (AG _ ((hg.append_right L0).trans (by rw [Aq]))))),aev (M:=g))
end
structure Mod (o o':Ob) (f:Int->UInt8):Prop where
 block:o'.block=o.block
 bonus:o'.bonus=o.bonus
 ok:dw o'
 cont:∀ j,Mine.cont o' j=f j
theorem wB.mod {o o':Ob} {f:Int->UInt8} (w:wB o o' f):Mod o o' f:=by
 show(e20 w.eq λO O e=>?_,⟨by rw [e],by rw [e],w.ok,w.cont⟩)
noncomputable def zp (f:Int->UInt8) (i j:Int):UInt8:=if j <i then f j else 0
theorem ah8 {o:Ob} {p:Int} (h:ba o.blocks p=none) (m:Nat):(bR o p).getD m 0=0:=by
 unfold bR;rw [h];exact ae1 _ _
theorem ah9 {o:Ob} (ok:dw o) {j:Int} (h:o.most <j / o.block):cont o j=0:=by
 unfold cont fy
 show(ah8 (s9 λp hp z=>?_) _,Int.not_le.mpr h (z▸ok.most p hp))
theorem ae2 {b:List UInt8} {r z:Nat} (h:r≤b.length) (m:Nat):(b.take r++Bt z 0).getD m 0=if m <r then b.getD m 0 else 0:=by
 rw [Ak,Cm,Cg,EN h]
 by_cases q:m <r
 ·rw [if_pos q,if_pos q,CU q,Ak]
 ·rw [if_neg q,if_neg q]
  have:=ae1 z (m - r)
  rwa [Ak] at this
theorem aqo {i b fi:Int} (b0:0 <b) (h:(i+b - 1) / b=fi):i≤b * fi∧(fi - 1) * b <i:=by
 have e:=Ce (i+b - 1) b
 have h1:=Bh (i+b - 1) (ne0 b0)
 have h2:=AW (i+b - 1) b0
 rw [h] at e
 rw [Int.sub_mul,EZ fi]
 refine ⟨?_,Int.sub_right_lt_of_lt_add ?_⟩
 ·show[Int.le_of_add_le_add_right (b:=(i+b - 1) % b)]
  rw [e];exact Au (Ct (Hb h2) i) (CO (Ft i b 1).symm)
 ·rw [Int.one_mul];exact Az (Bd h1) (by rw [e];exact GA _ (by decide))
theorem aqp {i b fi:Int} (b0:0 <b) (h:(i+b - 1) / b=fi):(0 <i % b->fi=i / b+1)∧(i % b=0->b * fi=i):=by
 have e:=Ce i b
 have r1:=AW i b0
 rw [← h]
 refine ⟨λq=>?_,λq=>?_⟩
 ·rw [show i+b - 1=(i % b - 1)+b * (i / b+1) by rw [Ha];lia,Ei _ _ (ne0 b0),C6 (BO (show (1:Int)≤i % b from q)) (Az (GB _ (by decide)) r1),EU]
 ·rw [q,A9] at e
  rw [show i+b - 1=(b - 1)+b * (i / b) by rw [e];lia,Ei _ _ (ne0 b0),C6 (BO (show (1:Int)≤b from b0)) (GA _ (by decide)),EU,e]
theorem zq (fi:Int):∀ bl:List (Int × List UInt8),((cG bl).map λp=>V.int p.1).filterMap (λv=>if fi≤v.i then some v else none)=((bl.map Ar).filter λx=>decide (fi≤x)).map V.int
 | []=>rfl
 | p::bl=>by
  show (V.int p.1::(cG bl).map λp=>V.int p.1).filterMap _=((p.1::bl.map Ar).filter _).map V.int
  rw [AO,AM,zq fi bl]
  rw [show (V.int p.1).i=p.1 from rfl]
  by_cases q:fi≤p.1
  ·rw [if_pos q,if_pos (decide_eq_true q)];rfl
  ·rw [if_neg q,if_neg (λz=>q (of_decide_eq_true z))]
theorem wD {α:Type} {k:Int} {l:List (Int × α)} (h:k∈l.map Ar):∃ a,ba l k=some a:=
 n7 λz=>by refine an (List.mem_map.mp h) λp hp q1'=>?_;subst q1';exact z p hp rfl
section
variable {c:Cx} {n:Nat} {L L0:ah}
theorem aqq {Q:ad} {X:ac} {u:V} {a b:Int} (e:u=.int a) (h:Q (.int (min a b)) L):ae c n (.builtin "min") [u,.int b] L Q X:=by subst e;exact xZ h
inductive atg (o:Ob) (fi:Int) (R L0:ah) (bl:List (Int × List UInt8)) (ks:List Int) (r:Nat) (m:Loc) (L':ah):Prop
 | mk (bl2:List (Int × List UInt8)) (h0:m.lookup ("change":Str)=some (.obj o.ch)) (h1:m.lookup ("first":Str)=some (.int fi)) (h2:L'.Perm (rD { o with blocks:=bl2 }++(R++L0))) (h3:bl2.Sublist bl) (h4:∀ p,ba bl2 p=if p∈ks.take r then none else ba bl p)
theorem aqr {s:OS} {k i:Int} {o:Ob} (hL:L.Perm (aQ s++L0)) (h:s.get k=some o) (ok:dw o) (h0:0≤i) (h1:i <1000) {Q:ad} {X:ac} (kk:∀ s' o',Upd s s' k o'->Mod o o' (zp (cont o) i)->Q .none (aQ s'++L0)):ae c (n+2) (.ref 1601) [.obj s.x,.int k,.int i] L Q X:=by
 refine ec (aew h) λR p1 mx p2=>?_
 have hm:=ci (c:=c) hL
 have b0:=ok.b0
 have b1:=ok.b1
 have e0:=Ce i o.block
 have r0:=Bh i (ne0 b0)
 have r1:=AW i b0
 obtain ⟨fi,hfi⟩:∃ fi,(i+o.block - 1) / o.block=fi:=⟨_,rfl⟩
 have hf:∀ j,(j / o.block <fi)↔j <o.block * fi:=λj=>by
  rw [Int.ediv_lt_iff_lt_mul b0,EZ]
 have hg:=aqp b0 hfi
 have hc:=aqo b0 hfi
 have pk:L.Perm (rD o++(R++L0)):=hL.trans ((p1.append_right L0).trans (by rw [Aq]))
 have fin:∀ o',o'.ch=o.ch->∀ L',L'.Perm (rD o'++(R++L0))->Mod o o' (zp (cont o) i)->∃ L1,Sub L1 L'∧Q .none L1:=λo' ho L' pp md=>by
  show[an (p2 o' ho) λs' q1 u=>?_,⟨aQ s'++L0,.of (pp.trans ?_),kk s' o' u md⟩]
  rw [← Aq]
  exact q1.append_right L0
 refine ae.norm (kY λa=>nZ 12 6 (λm1 L1=>m1=[(Ab "rest",V.int (i % o.block)),(Ab "first",V.int fi),(Ab "block",V.int o.block),(Ab "change",V.obj o.ch),(Ab "self",V.obj s.x),(Ab "number",V.int k),(Ab "at",V.int i)]∧fi≤o.most+1∧∃ bl,L1.Perm (rD { o with blocks:=bl }++(R++L0))∧dw { o with blocks:=bl }∧∀ j,cont { o with blocks:=bl } j=if i≤j∧j / o.block <fi then 0 else cont o j) ?_ λm1 L1 J=>@aa _ _ _ _ _ _ _ _ _ _ 12 ?_).fn
 rotate_left
 ·intro GL
  obtain ⟨rfl,q,bl,j1,j2,j3⟩:=J
  show[Am (rD { o with blocks:=bl }) (Am (R++L0) (Ah j1 ?_)),aI (Ag _ (Aa _ (.head _))) rfl rfl,ph (sT (es:=cG bl) (Aa _ (.tail _ (.tail _ (.head _))))),sr (λv=>if fi≤v.i then some v else none) (by rw [Af,Af];have:=j2.few;exact Ai this (by decide)) (λC D o' v hv=>?_) ?_]
  ·refine an (List.mem_map.mp hv) λp hp q1'=>?_
   subst q1'
   show[Ah rfl,xj (λz=>?_) λz=>?_]
   ·exact ⟨rfl,if_pos (of_decide_eq_true z)⟩
   ·exact if_neg (of_decide_eq_false z)
  rw [zq]
  show[ph bn]
  have nk:((bl.map Ar).filter λx=>decide (fi≤x)).Nodup:=j2.keys.filter _
  have mk:∀ x∈(bl.map Ar).filter λx=>decide (fi≤x),x∈bl.map Ar∧fi≤x:=λx hx=>by
   have:=List.mem_filter.mp hx;exact ⟨this.1,of_decide_eq_true this.2⟩
  have mk2:∀ x,fi≤x->x∈bl.map Ar->x∈(bl.map Ar).filter λx=>decide (fi≤x):=λx hx h=>List.mem_filter.mpr ⟨h,decide_eq_true hx⟩
  generalize (bl.map Ar).filter (λx=>decide (fi≤x))=ks at nk mk mk2 ⊢
  show[exL (atg o fi R L0 bl ks)]
  intro JJ
  refine Ah ⟨bl,rfl,rfl,.refl _,Ir _,λp=>by rw [Fh,if_neg B5]⟩ (Ah (λr x m1 L2 hx J=>?_) λm1 L2 J=>?_)
  ·intro GJ
   obtain ⟨bl2,i1,i2,i3,i4,i5⟩:=J
   rw [AE] at hx
   refine an (Option.map_eq_some_iff.mp hx) λx hx1 q1'=>?_
   subst q1'
   have hx2:=Bc hx1
   refine aE (wD (mk x hx2).1) λb hb=>?_
   have hnt:x∉ks.take r:=λz=>by
    have e:=Bg r ks
    rw [zj hx1] at e
    have nk2:=nk
    rw [← e] at nk2
    exact (List.nodup_append.mp nk2).2.2 x z x (.head _) rfl
   show[aV i1,aI (by exact ci i3 _ (.head _)) rfl rfl,aU (.popI (by exact ci i3 _ (.tail _ (.tail _ (.head _))))),an (mC (i3.trans wz)) λL₁ q1 q2=>?_]
   have gb:getD (cG bl2) x=some (.bytes b):=by rw [jk,i5,if_neg hnt,hb];rfl
   show[ajl q1 (by rw [Af];exact Ai i4.length_le (Ai j2.few (by decide))) gb,⟨jm bl2 x,i1,i2,?_,List.Sublist.trans HB i4,λp=>?_⟩]
   ·show ((o.bl,aj.dI (ma (cG bl2) x))::L₁).Perm _
    rw [show ma (cG bl2) x=cG (jm bl2 x) from wx V.bytes x bl2]
    exact (q2.cons _).trans wz.symm
   ·rw [jM,i5,BE,hx1,show (some x).toList=[x] from rfl]
    by_cases z:p=x
    ·rw [if_pos z,if_pos (Aa _ (z▸List.mem_singleton.mpr rfl))]
    ·rw [if_neg z]
     by_cases y:p∈ks.take r
     ·rw [if_pos y,if_pos (Ag _ y)]
     ·rw [if_neg y,if_neg λw=>(List.mem_append.mp w).elim y λw=>z (List.mem_singleton.mp w)]
  ·obtain ⟨bl2,i1,i2,i3,i4,i5⟩:=J
   rw [Af,BU] at i5
   have g:∀ p,ba bl2 p=if p <fi then ba bl p else none:=λp=>by
    rw [i5]
    by_cases z:p∈ks
    ·rw [if_pos z,if_neg (Int.not_lt.mpr (mk p z).2)]
    ·rw [if_neg z]
     by_cases y:p <fi
     ·rw [if_pos y]
     ·rw [if_neg y]
      cases e:ba bl p with
      | none=>rfl
      | some a=>exact (z (mk2 p (Int.not_lt.mp y) (AN (f:=Ar) (mB e)))).elim
   have end2:∀ (fs:Option Int) L',L'.Perm (rD { o with blocks:=bl2,first:=fs,most:=min o.most (fi - 1) }++(R++L0))->∃ L1,Sub L1 L'∧Q .none L1:=λfs L' pp=>by
    refine fin _ (by rfl) L' pp ⟨rfl,rfl,⟨b0,b1,ok.bon,λp hp=>j2.full p (i4.subset hp),λp hp=>?_,j2.keys.sublist (i4.map _),λp hp=>j2.rng p (i4.subset hp)⟩,λj=>?_⟩
    ·have h2:=j2.most p (i4.subset hp)
     have h3:p.1 <fi:=by
      refine aE (wD (AN (f:=Ar) hp)) λa ha=>?_
      rw [g] at ha
      by_cases z:p.1 <fi
      ·exact z
      ·rw [if_neg z] at ha;cases ha
     exact Int.le_min.mpr ⟨h2,Hb h3⟩
    ·have e:cont { o with blocks:=bl2,first:=fs,most:=min o.most (fi - 1) } j=if j / o.block <fi then cont { o with blocks:=bl } j else 0:=by
      unfold cont fy bR
      show (Option.getD (ba bl2 (j / o.block)) _).getD _ 0=_
      rw [g]
      by_cases z:j / o.block <fi
      ·rw [if_pos z,if_pos z]
      ·rw [if_neg z,if_neg z];exact ae1 _ _
     rw [e,j3]
     unfold zp
     have hh:=hf j
     by_cases z:j <i
     ·rw [if_pos z,if_pos (hh.mpr (Bv z hc.1)),if_neg λw=>Int.not_lt.mpr w.1 z]
     ·rw [if_neg z]
      by_cases y:j / o.block <fi
      ·rw [if_pos y,if_pos ⟨Int.not_lt.mp z,y⟩]
      ·rw [if_neg y]
   refine an (mC i3) λL₁ q1 q2=>?_
   have ch2:∀ fs:Option Int,(o.ch,aj.inst 1481 o.chd (chF { o with blocks:=bl2,first:=fs }))∈c.R++((o.ch,aj.inst 1481 o.chd (chF { o with blocks:=bl2,first:=fs }))::L₁):=λfs=>Aa _ (.head _)
   show[aV i1,aI (by exact ci i3 _ (.head _)) rfl rfl]
   rcases hfs:o.first with _ | fs
   ·show(aV i2,aV i1,ak q1 rfl,aV i1,aI (by exact ch2 (some fi)) rfl rfl,aV i2,xZ,aV i1,ak .here rfl,end2 (some fi) _ (q2.cons _))
   ·show(aV i1,aI (by exact ci i3 _ (.head _)) rfl rfl,aV i2,aqq (a:=fs) (by rw [hfs];rfl),aV i1,ak q1 rfl,aV i1,aI (by exact ch2 (some (min fs fi))) rfl rfl,aV i2,xZ,aV i1,ak .here rfl,end2 (some (min fs fi)) _ (q2.cons _))
 intro GL
 show[cQ (Int.not_lt.mpr h0),aU (.inst (by exact hm _ (.head _)) rfl rfl rfl),fX (by exact hm) h,aI (by exact hm _ (dO h (.head _))) rfl rfl,aI (by exact hm _ (dO h (.tail _ (.head _)))) rfl rfl,xk (Ah rfl ?_),l8 b0 (Bu (ant b0 (Au b1 (by decide)))),c5 b0]
 rw [hfi]
 show[aI (by exact hm _ (dO h (.head _))) rfl rfl,xj (λq=>?_) λq=>?_]
 ·have q:=of_decide_eq_true q
  refine fin o rfl L pk ⟨rfl,rfl,ok,λj=>?_⟩
  unfold zp
  by_cases z:j <i
  ·rw [if_pos z]
  ·rw [if_neg z]
   show(ah9 ok,Bv (Int.lt_sub_right_of_add_lt q) (Int.le_ediv_of_mul_le b0 (Bf (Bv hc.2 (Int.not_lt.mp z)))))
 have q:=of_decide_eq_false q
 refine xj (λy=>?_) λy=>?_
 ·have y:=of_decide_eq_true y
  have g:=hg.1 y
  have g2:fi - 1=i / o.block:=by rw [g,DV]
  refine aE (exN r0) λr hr=>?_
  have rb:(r:Int)≤o.block:=hr▸Bf r1
  have lb:=ok.len (fi - 1)
  have rl:r≤(bR o (fi - 1)).length:=Int.ofNat_le.mp (by rw [lb];exact rb)
  have ee:=rbe (b:=o.block) e0 hr
  have i2:=EM h0 (Bf b0)
  have i3:=Gc o.block h0
  show[aU (.inst (by exact hm _ (.head _)) rfl rfl rfl),lr (by exact λp hp=>hm _ (dO h hp)) ok,Am _ (Ah rfl ?_),dE (Int.ofNat_le.mp (by rw [lb];exact Au b1 (by decide)))]
  rw [hr,jn rl]
  have lt:((bR o (fi - 1)).take r).length=r:=BI rl
  show[wk (by rw [lt];exact rb) (Au b1 (by decide))]
  rw [lt]
  show[aI (by exact hm _ (dO h (.head _))) rfl rfl,an (mC (pk.trans (wz (a:=(o.ch,.inst 1481 o.chd (chF o))) (b:=(o.dn,.inst 1168 o.dnd (sy o.kind o.block (-1) o.bonus))) (x:=(o.bl,.dI (cG o.blocks))) (M:=R++L0)))) λL₁ q1 q2=>?_,ajz q1 ok.few]
  have nl:(((bR o (fi - 1)).take r++Bt (o.block - r).toNat 0).length:Int)=o.block:=by rw [As,lt,BY];exact rbn rb
  refine ⟨by rw [hr];rfl,Int.not_lt.mp q,_,(q2.cons _).trans wz.symm,ok.sett (m:=o.most) nl (by rw [g2];exact ⟨i2,Az i3 h1⟩) (EH (Int.sub_right_le_of_le_add (Int.not_lt.mp q))).symm,λj=>?_⟩
  have hp:=qU (blk:=bR o) (blk':=bR { o with blocks:=sett o.blocks (fi - 1) ((bR o (fi - 1)).take r++Bt (o.block - r).toNat 0),most:=o.most }) (i0:=i) (s:=o.block - r) (f:=λO=>0) b0 (BO rb) (by rw [hr,BL,DU];exact BG _) (λp hp=>by rw [mD (o:=o),if_neg (by rw [g2];exact hp)]) (λm hm=>by
   rw [mD (o:=o),if_pos g2.symm,ae2 rl,← g2]
   by_cases z:m <r
   ·rw [if_pos z,if_neg λw=>Nat.not_lt.mpr (Int.ofNat_le.mp (hr▸w.1)) z]
   ·rw [if_neg z,if_pos ⟨by rw [hr];exact Int.ofNat_le.mpr (Nat.not_lt.mp z),by rw [hr,BL,DU];exact hm⟩]) j
  show[hp.trans]
  have hh:=hf j
  rw [g,Ha,Int.mul_one,← ee] at hh
  by_cases z:i≤j∧j <i+(o.block - r)
  ·rw [if_pos z,if_pos]
   rw [g];exact ⟨z.1,hh.mpr z.2⟩
  ·rw [if_neg z,if_neg]
   ·rfl
   ·rw [g];exact λw=>z ⟨w.1,hh.mp w.2⟩
 ·have y:=of_decide_eq_false y
  refine ⟨rfl,Int.not_lt.mp q,o.blocks,pk,ok,λj=>?_⟩
  rw [if_neg]
  rw [hf,hg.2 (Int.le_antisymm (Int.not_lt.mp y) r0)]
  exact λw=>Int.not_lt.mpr w.1 w.2
end
noncomputable def jp (k:Int):Int:=(k * 2654435761+40503) % 4294967296
theorem py (k:Int):0≤jp k∧jp k <4294967296:=⟨Bh _ (by decide),AW _ (by decide)⟩
structure jq (rows:List bP):Prop where
 row:∀ r∈rows,eP r
 few:rows.length≤3
structure aqs (o:Ob) (k:Int) (rows:List bP):Prop where
 ok:dw o
 block:o.block=128
 enc:de (cont o) 0 128=encM (jp k) rows
 rows:jq rows
structure bE (s:OS) (k:Int) (rows:List bP):Prop where
 ob:∃ o,s.get k=some o∧aqs o k rows
 k0:1≤k
 k1:k≤1000
structure fZ (s s':OS) (t':Int) (K:Int->Prop):Prop where
 eq:∃ l,s'={ s with objs:=l,top:=some t' }
 ok:cK s' t'
 oth:∀ j,¬ K j->s'.get j=s.get j
noncomputable def OS.up (s:OS) (l:List (Int × Ob)) (t:Int):OS:={ s with objs:=l,top:=some t }
theorem fZ.up {s s':OS} {t':Int} {K:Int->Prop} (h:fZ s s' t' K):∃ l,s'=s.up l t':=h.eq
theorem fZ.up2 {s s':OS} {l:List (Int × Ob)} {t t':Int} {K:Int->Prop} (h:fZ (s.up l t) s' t' K):∃ l',s'=s.up l' t':=h.eq
theorem fZ.trans {s s1 s2:OS} {t1 t2:Int} {K K1:Int->Prop} (a:fZ s s1 t1 K) (b:fZ s1 s2 t2 K1):fZ s s2 t2 λj=>K j∨K1 j:=by
 show(aE a.eq λl e=>?_,aE b.eq λm f=>?_,⟨⟨m,by rw [f,e]⟩,b.ok,λj h=>(b.oth j λq=>h (.inr q)).trans (a.oth j λq=>h (.inl q))⟩)
theorem fZ.less {s s':OS} {t':Int} {K K':Int->Prop} (h:fZ s s' t' K) (k:∀ j,K j->K' j):fZ s s' t' K':=⟨h.eq,h.ok,λj q=>h.oth j λy=>q (k j y)⟩
theorem Upd.step {s s':OS} {k t:Int} {o o':Ob} (u:Upd s s' k o') (h:s.get k=some o) (ok:cK s t) (ok':dw o'):fZ s s' t (·=k):=by
 show(an u.eq λl e O=>?_,⟨⟨l,by rw [e,← ok.top]⟩,u.okS h ok ok',λj q=>by rw [u.get,if_neg q]⟩)
theorem Add.step {s s':OS} {t b:Int} {o:Ob} {bo:List UInt8} (u:Add s s' (t+1) o b bo) (ok:cK s t) (ht:t <1000):fZ s s' (t+1) (·=t+1):=
 ⟨⟨_,u.eq⟩,u.okS ok ht,λj q=>by rw [u.get ok.fresh,if_neg q]⟩
noncomputable def bB (rows:List bP) (x:Str):Option Int:=(rows.filterMap λr=>if r.1=x then some r.2 else none).head?
theorem zr (x:Str):∀ rows:List bP,(rows.map c7).filterMap (λv=>if (v.t.getD 0 .none).s=x then some (V.int (v.t.getD 1 .none).i) else none)=(rows.filterMap λr=>if r.1=x then some r.2 else none).map V.int
 | []=>rfl
 | r::rows=>by
  rw [A0,AO,AO,zr x rows]
  by_cases q:r.1=x
  ·rw [show (if ((c7 r).t.getD 0 .none).s=x then some (V.int ((c7 r).t.getD 1 .none).i) else none)=some (V.int r.2) from if_pos q,if_pos q];rfl
  ·rw [show (if ((c7 r).t.getD 0 .none).s=x then some (V.int ((c7 r).t.getD 1 .none).i) else none)=none from if_neg q,if_neg q]
section
variable {c:Cx} {n:Nat} {L L0:ah}
theorem dF {s:OS} {k:Int} {rows:List bP} (hm:∀ p∈aQ s,p∈c.R++L) (z:bE s k rows) {Q:ad} {X:ac} (kk:Q (.bytes (encM (jp k) rows)) L):ae c (n+6) (.ref 451) [.obj s.x,.int k] L Q X:=by
 show[an z.ob λo ho zo=>?_,ae.norm (nr λa=>@aa _ _ _ _ _ _ _ _ _ _ 12 ?_).fn]
 intro GL
 show[aU (.inst (by exact hm _ (.head _)) rfl rfl rfl),aU (.inst (by exact hm _ (.head _)) rfl rfl rfl),uI (by exact hm) ho zo.ok λy e=>?_,aI (Aa _ (.head _)) rfl rfl,(yx (by exact λp hp=>bC (hm p hp)) ho zo.ok (by decide) (by rw [zo.block];decide) (by rw [zo.block];decide) ?_).le (lE n 2 5 rfl),⟨L,.tail,kq ?_ kk⟩]
 rw [zo.block,show (128:Int).toNat=128 from rfl,zo.enc]
theorem yy (salt:Int) (rows:List bP):(encM salt rows).getD 0 0=1:=rfl
theorem dq {rows:List bP} (h:jq rows):rows.length≤6:=Ai h.few (by decide)
theorem gO {k m:Int} {rows:List bP} (h:jq rows) (e:m=1) {Q:ad} {X:ac} (kk:Q (.int m) L):ae c (n+1) (.ref 404) [.bytes (encM (jp k) rows)] L Q X:=by
 subst e
 have hl:=c9 (salt:=jp k) h.row (dq h)
 exact aa2 (by rw [hl];decide) (by rw [hl];decide) (by rw [yy];decide) kk
theorem gP {s:OS} {k:Int} {rows:List bP} {x:Str} (hm:∀ p∈aQ s,p∈c.R++L) (z:bE s k rows) {Q:ad} {X:ac} (kk:Q (eY (bB rows x)) L):ae c (n+7) (.ref 475) [.obj s.x,.int k,.str x] L Q X:=by
 refine an z.ob λo ho zo=>?_
 unfold bB at kk
 have hz:(rows.filterMap λr=>if r.1=x then some r.2 else none).length≤3:=Ai (DP _ _) zo.rows.few
 obtain ⟨fs,hf⟩:∃ fs,(rows.filterMap λr=>if r.1=x then some r.2 else none)=fs:=⟨_,rfl⟩
 rw [hf] at hz kk
 refine (rN λa=>@aa _ _ _ _ _ _ _ _ _ _ 12 ?_).fn
 intro GL
 show[dF (by exact hm) z]
 obtain ⟨mm,em⟩:∃ m:Int,m=1:=⟨1,rfl⟩
 show[(gO zo.rows em ?_).le (lE n 1 6 rfl),d0 em,Ah rfl,(d7 rfl zo.rows.row (dq zo.rows) ?_).le (lE n 5 6 rfl),ph bn,sr (λv=>if (v.t.getD 0 .none).s=x then some (.int (v.t.getD 1 .none).i) else none) (by rw [Af];have:=zo.rows.few;lia) (λC D o' v hv=>?_) ?_]
 ·refine an (List.mem_map.mp hv) λr hr q1'=>?_
  subst q1'
  show[Ah rfl,xj (λq=>?_) λq=>?_]
  ·exact ⟨rfl,if_pos (of_decide_eq_true q)⟩
  ·exact if_neg (of_decide_eq_false q)
 rw [zr,hf]
 clear hf
 show[xk (pd ?_),xj (λq=>?_) λq=>?_]
 ·cases fs with
  | nil=>exact absurd q AK
  | cons y fs=>exact ui (by rw [Af];lia) (by decide) rfl kk
 ·cases fs with
  | nil=>exact kk
  | cons y fs=>exact F9 q
theorem td {s:OS} {k:Int} {rows:List bP} (hm:∀ p∈aQ s,p∈c.R++L) (z:bE s k rows) {Q:ad} {X:ac} (kk:∀ (rows':List bP),rows'.Perm rows->Q (.list (rows'.map c7)) L):ae c (n+7) (.ref 482) [.obj s.x,.int k] L Q X:=by
 show[an z.ob λo ho zo=>?_,(tZ λa=>@aa _ _ _ _ _ _ _ _ _ _ 12 ?_).fn]
 intro GL
 show[dF (by exact hm) z]
 obtain ⟨mm,em⟩:∃ m:Int,m=1:=⟨1,rfl⟩
 show((gO zo.rows em ?_).le (lE n 1 6 rfl),d0 em,(d7 rfl zo.rows.row (dq zo.rows) ?_).le (lE n 5 6 rfl),uy zo.rows.few λrows' hp=>kk rows' hp)
end
noncomputable def f0 (s:OS) (k:Int) (b:List UInt8):Prop:=∃ o,s.get k=some o∧o.bonus=b
theorem yz (f:Int->UInt8) (i:Int) (l:List UInt8):de (jo f i l) i l.length=l:=by
 refine C2 dv λj h1 h2=>?_
 have h:=jl (f:=jo f i l) (i:=i) (k:=l.length) h2
 rw [Ak,AB h1] at h
 show[Iq h]
 unfold jo
 rw [if_pos ⟨Bd (Av j),CV (Int.ofNat_lt.mpr h2) i⟩,tz,AX,Ak,AB h2];rfl
theorem jO {s s':OS} {k t:Int} {o o':Ob} {rows:List bP} (h:s.get k=some o) (k0:1≤k∧k≤1000) (hb:o.block=128) (u:Upd s s' k o') (wr:wB o o' (jo (cont o) 0 (encM (jp k) rows))) (hr:jq rows) (ok:cK s t):
 bE s' k rows∧fZ s s' t (·=k)∧∀ b,f0 s k b->f0 s' k b:=by
 have md:=wr.mod
 have g:s'.get k=some o':=by rw [u.get,if_pos rfl]
 refine ⟨⟨⟨o',g,wr.ok,md.block.trans hb,?_,hr⟩,k0.1,k0.2⟩,u.step h ok wr.ok,λb hb=>?_⟩
 ·rw [show cont o'=jo (cont o) 0 (encM (jp k) rows) from funext wr.cont]
  have:=yz (cont o) 0 (encM (jp k) rows)
  rwa [c9 hr.row (dq hr)] at this
 ·refine an hb λq h1 h2=>?_
  rw [h] at h1;cases h1
  exact ⟨o',g,md.bonus.trans h2⟩
theorem te:jq []:=⟨λO h=>(by cases h),by decide⟩
theorem amn {p:Prop} [Decidable p] (h:(!decide p)=true):¬ p:=λq=>by rw [decide_eq_true q] at h;cases h
theorem amo {p:Prop} [Decidable p] (h:(!decide p)=false):p:=DG λq=>by rw [decide_eq_false q] at h;cases h
section
variable {c:Cx} {n:Nat} {L L0:ah}
theorem n9 {s:OS} {t kind:Int} (hL:L.Perm (aQ s++L0)) (ok:cK s t) (ht:t <1000) (k0:0 <kind) (k1:kind <18) {Q:ad} {X:ac} (kk:∀ s',fZ s s' (t+1) (·=t+1)->bE s' (t+1) []->f0 s' (t+1) []->Q (.int (t+1)) (aQ s'++L0)):ae c (n+7) (.ref 518) [.obj s.x,.int kind] L Q X:=by
 have hm:=ci (c:=c) hL
 have t0:=ok.t0
 refine (lR λa=>@aa _ _ _ _ _ _ _ _ _ _ 12 ?_).fn
 intro GL
 show[aI (by exact hm _ (.head _)) rfl rfl,aI (by exact hm _ (.tail _ (.head _))) rfl rfl,aU (.inst (by exact hm _ (.head _)) rfl rfl rfl),(amm hL ok ht k0 k1 (by decide) (by decide) λs1 o u=>?_).le (lE n 5 6 rfl)]
 have hs:=u.step ok ht
 have g:s1.get (t+1)=some o:=by rw [u.get ok.fresh,if_pos rfl]
 have bo:=u.bonus
 have ub:=u.block
 have uo:=u.ok
 have e:=u.eq
 subst e
 show(aU (.inst (Aa _ (.head _)) rfl rfl rfl),(jJ (akc (CH t0 (by decide)) (EF ht)) ?_).le (lE n 1 6 rfl),xk,(c8 (rows:=[]) (py (t+1)) te.row (by decide) ?_).le (lE n 4 6 rfl),ed (.refl _) g uo (by decide) (by rw [c9 te.row (by decide)];decide) λs2 o2 u2 wr=>?_,dR (jO g ⟨DE t0,EF ht⟩ ub u2 wr te hs.ok) λz st hb=>?_,kk s2 ((hs.trans st).less λj q=>q.elim id id) z (hb _ ⟨o,g,bo⟩))
theorem yA (x:Str):∀ rows:List bP,(rows.map c7).filterMap (λv=>if (v.t.getD 0 .none).s=x then none else some v)=(rows.filter λr=>decide (r.1≠x)).map c7
 | []=>rfl
 | r::rows=>by
  rw [A0,AO,AM,yA x rows]
  by_cases q:r.1=x
  ·rw [show (if ((c7 r).t.getD 0 .none).s=x then none else some (c7 r))=none from if_pos q,if_neg (λz=>absurd q (of_decide_eq_true z))]
  ·rw [show (if ((c7 r).t.getD 0 .none).s=x then none else some (c7 r))=some (c7 r) from if_neg q,if_pos (decide_eq_true q)];rfl
theorem wE {rows:List bP} {x:Str} (h:jq rows):jq (rows.filter λr=>decide (r.1≠x)):=⟨λr hr=>h.row r (List.mem_filter.mp hr).1,Ai (BZ _ _) h.few⟩
theorem oa {s:OS} {k t:Int} {rows:List bP} {r:bP} (hL:L.Perm (aQ s++L0)) (ok:cK s t) (z:bE s k rows) (hr:eP r) (hz:(rows.filter λq=>decide (q.1≠r.1)).length≤2) {Q:ad} {X:ac} (kk:∀ s' rows',fZ s s' t (·=k)->rows'.Perm ((rows.filter λq=>decide (q.1≠r.1))++[r])->bE s' k rows'->(∀ b,f0 s k b->f0 s' k b)->Q .none (aQ s'++L0)):ae c (n+8) (.ref 523) [.obj s.x,.int k,.str r.1,.int r.2] L Q X:=by
 have hm:=ci (c:=c) hL
 refine an z.ob λo ho zo=>?_
 have hl:=c9 (salt:=jp k) zo.rows.row (dq zo.rows)
 have k0:=z.k0
 have k1:=z.k1
 refine (t5 λa=>@aa _ _ _ _ _ _ _ _ _ _ 12 ?_).fn
 intro GL
 show[(yv hr ?_).le (lE n 2 7 rfl),(dF (by exact hm) z ?_).le (lE n 6 7 rfl)]
 obtain ⟨mm,em⟩:∃ m:Int,m=1:=⟨1,rfl⟩
 show[(gO zo.rows em ?_).le (lE n 1 7 rfl),fE (neF em),(d7 rfl zo.rows.row (dq zo.rows) ?_).le (lE n 5 7 rfl),ph bn,sr (λv=>if (v.t.getD 0 .none).s=r.1 then none else some v) (by rw [Af];have:=zo.rows.few;lia) (λC D o' v hv=>?_) ?_]
 ·refine an (List.mem_map.mp hv) λq hq q1'=>?_
  subst q1'
  show[eH (by show 2≤_;decide) rfl (by decide) rfl,Ah rfl,xj (λy=>?_) λy=>?_]
  ·exact ⟨rfl,if_neg (amn y)⟩
  ·exact if_pos (amo y)
 rw [yA]
 show[uh (by rw [Af];show _+1≤_;lia)]
 have ho2:∀ q∈(rows.filter λq=>decide (q.1≠r.1))++[r],eP q:=λq hq=>(List.mem_append.mp hq).elim ((wE zo.rows).row q) λh=>by rw [List.mem_singleton.mp h];exact hr
 have hz2:((rows.filter λq=>decide (q.1≠r.1))++[r]).length≤3:=by rw [As];show _+1≤3;lia
 have em2:((rows.filter λq=>decide (q.1≠r.1)).map c7)++[V.tup [.str r.1,.int r.2]]=((rows.filter λq=>decide (q.1≠r.1))++[r]).map c7:=by rw [AT];rfl
 rw [em2]
 refine uy hz2 λrows' hp=>?_
 have ok':jq rows':=⟨λq hq=>ho2 q (hp.mem_iff.mp hq),by rw [hp.length_eq];exact hz2⟩
 show[(jJ (akc (Au (by decide) k0) k1) ?_).le (lE n 1 7 rfl),cJ (by rw [hl];decide)]
 rw [hl]
 show((c8 (rows:=rows') (py k) ok'.row (dq ok') ?_).le (lE n 4 7 rfl),aU (.inst (by exact hm _ (.head _)) rfl rfl rfl),(ed hL ho zo.ok (by decide) (by rw [c9 ok'.row (dq ok')];decide) λs2 o2 u2 wr=>?_).le (lE n 6 7 rfl),dR (jO ho ⟨k0,k1⟩ zo.block u2 wr ok' ok) λz2 st hb=>?_,kk s2 rows' st hp z2 hb)
theorem yB {s:OS} {k t y:Int} {rows:List bP} {x:Str} (hL:L.Perm (aQ s++L0)) (ok:cK s t) (z:bE s k rows) (hy:bB rows x=some y) {Q:ad} {X:ac} (kk:∀ s',fZ s s' t (·=k)->bE s' k (rows.filter λq=>decide (q.1≠x))->(∀ b,f0 s k b->f0 s' k b)->Q .none (aQ s'++L0)):ae c (n+8) (.ref 528) [.obj s.x,.int k,.str x] L Q X:=by
 have hm:=ci (c:=c) hL
 refine an z.ob λo ho zo=>?_
 have hl:=c9 (salt:=jp k) zo.rows.row (dq zo.rows)
 have k0:=z.k0
 have k1:=z.k1
 have ok':=wE (x:=x) zo.rows
 refine (rP λa=>@aa _ _ _ _ _ _ _ _ _ _ 12 ?_).fn
 intro GL
 show[gP (by exact hm) z]
 rw [hy]
 refine (dF (by exact hm) z ?_).le (lE n 6 7 rfl)
 obtain ⟨mm,em⟩:∃ m:Int,m=1:=⟨1,rfl⟩
 show[(gO zo.rows em ?_).le (lE n 1 7 rfl),d0 em,Ah rfl,(d7 rfl zo.rows.row (dq zo.rows) ?_).le (lE n 5 7 rfl),ph bn,sr (λv=>if (v.t.getD 0 .none).s=x then none else some v) (by rw [Af];have:=zo.rows.few;lia) (λC D o' v hv=>?_) ?_]
 ·refine an (List.mem_map.mp hv) λq hq q1'=>?_
  subst q1'
  show[eH (by show 2≤_;decide) rfl (by decide) rfl,Ah rfl,xj (λy=>?_) λy=>?_]
  ·exact ⟨rfl,if_neg (amn y)⟩
  ·exact if_pos (amo y)
 rw [yA]
 show[aU (.inst (by exact hm _ (.head _)) rfl rfl rfl),(jJ (akc (Au (by decide) k0) k1) ?_).le (lE n 1 7 rfl),cJ (by rw [hl];decide)]
 rw [hl]
 show((c8 (py k) ok'.row (dq ok') ?_).le (lE n 4 7 rfl),(ed hL ho zo.ok (by decide) (by rw [c9 ok'.row (dq ok')];decide) λs2 o2 u2 wr=>?_).le (lE n 6 7 rfl),dR (jO ho ⟨k0,k1⟩ zo.block u2 wr ok' ok) λz2 st hb=>?_,kk s2 st z2 hb)
end
noncomputable def aj0:Option Int->V
 | none=>.none
 | some y=>.tup [.int (y / 4),.int (y % 4)]
noncomputable abbrev aqt (r:bP):V:=.tup [.str r.1,.int (r.2 / 4),.int (r.2 % 4)]
structure amp (s:OS) (k:Int) (z:Zn):Prop where
 ob:∃ o,s.get k=some o∧dw o∧o.bonus=bO z
 ok:cf z
section
variable {c:Cx} {n:Nat} {L L0:ah}
theorem jP {s:OS} {k:Int} {rows:List bP} {x:Str} (hm:∀ p∈aQ s,p∈c.R++L) (z:bE s k rows) (hx:dH x) {Q:ad} {X:ac} (kk:Q (aj0 (bB rows x)) L):ae c (n+8) (.ref 590) [.obj s.x,.int k,.str x] L Q X:=by
 refine (t6 λa=>@aa _ _ _ _ _ _ _ _ _ _ 12 ?_).fn
 intro GL
 show[(hY hx ?_).le (lE n 1 7 rfl),gP (by exact hm) z]
 cases e:bB rows x with
 | none=>rw [e] at kk;exact kk
 | some y=>
  show[l8 (by decide) (Bu (by decide)),c5 (by decide)]
  rw [e] at kk;exact kk
theorem ff {s:OS} {k t num sort:Int} {rows:List bP} {x:Str} (hL:L.Perm (aQ s++L0)) (ok:cK s t) (z:bE s k rows) (hr:eP (x,num * 4+sort)) (hz:(rows.filter λq=>decide (q.1≠x)).length≤2) {Q:ad} {X:ac} (kk:∀ s' rows',fZ s s' t (·=k)->rows'.Perm ((rows.filter λq=>decide (q.1≠x))++[(x,num * 4+sort)])->bE s' k rows'->(∀ b,f0 s k b->f0 s' k b)->Q .none (aQ s'++L0)):ae c (n+9) (.ref 597) [.obj s.x,.int k,.str x,.int num,.int sort] L Q X:=by
 refine (qc λa=>@aa _ _ _ _ _ _ _ _ _ _ 12 ?_).fn
 intro GL
 show((dc hr.good ?_).le (lE n 2 8 rfl),l7 (vG (by decide)),oa (r:=(x,num * 4+sort)) hL ok z hr hz kk)
theorem gQ {s:OS} {k t y:Int} {rows:List bP} {x:Str} (hL:L.Perm (aQ s++L0)) (ok:cK s t) (z:bE s k rows) (hx:dH x) (hy:bB rows x=some y) {Q:ad} {X:ac} (kk:∀ s',fZ s s' t (·=k)->bE s' k (rows.filter λq=>decide (q.1≠x))->(∀ b,f0 s k b->f0 s' k b)->Q (aj0 (some y)) (aQ s'++L0)):ae c (n+9) (.ref 604) [.obj s.x,.int k,.str x] L Q X:=by
 have hm:=ci (c:=c) hL
 refine (oJ λa=>@aa _ _ _ _ _ _ _ _ _ _ 12 ?_).fn
 intro GL
 show[jP (by exact hm) z hx]
 rw [hy]
 show(yB hL ok z hy λs' st z' hb=>?_,kk s' st z' hb)
theorem aa8 {s:OS} {k:Int} {rows:List bP} (hm:∀ p∈aQ s,p∈c.R++L) (z:bE s k rows) {Q:ad} {X:ac} (kk:∀ (rows':List bP),rows'.Perm rows->Q (.list (rows'.map aqt)) L):ae c (n+8) (.ref 609) [.obj s.x,.int k] L Q X:=by
 show[an z.ob λo ho zo=>?_,(t8 λa=>@aa _ _ _ _ _ _ _ _ _ _ 12 ?_).fn]
 intro GL
 show[td (by exact hm) z λrows' hp=>?_,ph bn,sr (λv=>some (.tup [v.t.getD 0 .none,.int ((v.t.getD 1 .none).i / 4),.int ((v.t.getD 1 .none).i % 4)])) (by rw [Af,hp.length_eq];have:=zo.rows.few;lia) (λC D o' v hv=>?_) ?_]
 ·refine an (List.mem_map.mp hv) λr hr q1'=>?_
  subst q1'
  show(l8 (by decide) (Bu (by decide)),c5 (by decide),⟨rfl,rfl⟩)
 rw [c6,Aw]
 exact kk rows' hp
theorem yC {s:OS} {k:Int} {rows:List bP} (hm:∀ p∈aQ s,p∈c.R++L) (z:bE s k rows) {Q:ad} {X:ac} (kk:Q (.bool rows.isEmpty) L):ae c (n+8) (.ref 616) [.obj s.x,.int k] L Q X:=by
 refine (rR λa=>@aa _ _ _ _ _ _ _ _ _ _ 12 ?_).fn
 intro GL
 show[td (by exact hm) z λrows' hp=>?_,xk (y8 ?_),kq (congrArg V.bool ?_) kk]
 cases rows with
 | nil=>rw [hp.eq_nil];rfl
 | cons r rows=>
  cases rows' with
  | nil=>exact absurd hp.length_eq (by simp)
  | cons _ _=>rfl
theorem aK {s:OS} {k:Int} {z:Zn} (hm:∀ p∈aQ s,p∈c.R++L) (h:amp s k z) {Q:ad} {X:ac} (kk:∀ x d,Q (.obj x) ((x,.inst 640 d (eO z))::L)):ae c (n+6) (.ref 665) [.obj s.x,.int k] L Q X:=by
 show[ec h.ob λo ho oo hb=>?_,ae.norm (oM λa=>@aa _ _ _ _ _ _ _ _ _ _ 12 ?_).fn]
 intro GL
 show(aU (.inst (by exact hm _ (.head _)) rfl rfl rfl),uI (by exact hm) ho oo λy e=>?_,aI (Aa _ (.head _)) rfl rfl,(yu h.ok hb λx d=>?_).le (lE n 4 5 rfl),⟨_,⟨[_],wm⟩,kk x d⟩)
theorem bU {s:OS} {k t:Int} {z:Zn} {x d:Addr} {o:Ob} (hL:L.Perm (aQ s++L0)) (ok:cK s t) (h:s.get k=some o) (hz:cf z) (hx:(x,aj.inst 640 d (eO z))∈c.R++L) {Q:ad} {X:ac} (kk:∀ s',fZ s s' t (·=k)->s'.get k=some { o with bonus:=bO z }->Q .none (aQ s'++L0)):ae c (n+5) (.ref 672) [.obj s.x,.int k,.obj x] L Q X:=by
 have hm:=ci (c:=c) hL
 have oo:=ok.ok _ _ h
 refine (nv λa=>@aa _ _ _ _ _ _ _ _ _ _ 12 ?_).fn
 intro GL
 show(aU (.inst (by exact hm _ (.head _)) rfl rfl rfl),jj hz (by exact hx),(wy hL h (by rw [ji];decide) λs' u=>?_).le (lE n 2 4 rfl),kk s' (u.step h ok ⟨oo.b0,oo.b1,by rw [ji];decide,oo.full,oo.most,oo.keys,oo.rng⟩) (by rw [u.get,if_pos rfl]))
end
end Mine
namespace Mine
open PySem PySem.W PyProof.Rows PySem.Calls PySem.Builtin.Str
theorem iA {P:_root_.Fin 4->Prop} (h0:P 0) (h1:P 1) (h2:P 2) (h3:P 3) (p:_root_.Fin 4):P p:=by
 cases p with | mk v h=>?_
 cases v with
 | zero=>exact h0
 | succ v=>
 cases v with
 | zero=>exact h1
 | succ v=>
 cases v with
 | zero=>exact h2
 | succ v=>
 cases v with
 | zero=>exact h3
 | succ v=>exact (Nat.not_lt.mpr (Bz 4 v) h).elim
noncomputable def pk4 {α:Type} (a b c d:α) (p:_root_.Fin 4):α:=match p.val with
 | 0=>a
 | 1=>b
 | 2=>c
 | _=>d
noncomputable def dp:_root_.Fin 4->Str:=pk4 (Ab "a") (Ab "b") (Ab "c") (Ab "f")
noncomputable def pS:_root_.Fin 4->Str:=pk4 (Ab "/a") (Ab "/b") (Ab "/f/c") (Ab "/f")
structure tm (x:Str) (l:List Str):Prop where
 len:x.length≤1000
 few:(partsBetween x (occurrences x (Ab "/") 0 x.length (x.length+1)) (Ab "/").length).length≤1000000
 eq:(IN x (Ab "/")).filter (λy=>!decide (y=Ab ""))=l
 n2:(IN x (Ab "/")).length≤1000000
noncomputable def nm4:_root_.Fin 4->List Str:=pk4 [Ab "a"] [Ab "b"] [Ab "f",Ab "c"] [Ab "f"]
theorem jQ:∀ p,tm (pS p) (nm4 p):=iA ⟨by decide+kernel,by decide+kernel,by kernel_rfl,by decide+kernel⟩ ⟨by decide+kernel,by decide+kernel,by kernel_rfl,by decide+kernel⟩ ⟨by decide+kernel,by decide+kernel,by kernel_rfl,by decide+kernel⟩ ⟨by decide+kernel,by decide+kernel,by kernel_rfl,by decide+kernel⟩
theorem uK:tm (Ab "") []:=⟨by decide+kernel,by decide+kernel,by kernel_rfl,by decide+kernel⟩
theorem aia:tm (Ab "f") [Ab "f"]:=⟨by decide+kernel,by decide+kernel,by kernel_rfl,by decide+kernel⟩
section
variable {c:Cx} {n:Nat} {L L0:ah}
theorem gR {x:Str} {l:List Str} (h:tm x l) {Q:ad} {X:ac} (kk:Q (.list (l.map .str)) L):ae c (n+1) (.ref 677) [.str x] L Q X:=by
 refine (oN λa=>@aa _ _ _ _ _ _ _ _ _ _ 12 ?_).fn
 intro GL
 show[aU .splitS,al1 (by decide+kernel) (Ai h.len (by decide)) h.few,ph bn,sr (λv=>if v.s=Ab "" then none else some v) (by rw [Af];exact h.n2) (λC D o' v hv=>?_) ?_]
 ·refine an (List.mem_map.mp hv) λy hy q1'=>?_
  subst q1'
  show[Ah rfl,xj (λq=>?_) λq=>?_]
  ·exact ⟨rfl,if_neg (amn q)⟩
  ·exact if_pos (amo q)
 refine kq (congrArg V.list ?_) kk
 rw [← h.eq]
 generalize IN x (Ab "/")=ys
 induction ys with
 | nil=>rfl
 | cons y ys ih=>
  rw [A0,AO,AM,ih]
  by_cases q:y=Ab ""
  ·rw [show (if (V.str y).s=Ab "" then none else some (V.str y))=none from if_pos q,if_neg (by rw [decide_eq_true q];exact AK)]
  ·rw [show (if (V.str y).s=Ab "" then none else some (V.str y))=some (V.str y) from if_neg q,if_pos (by rw [decide_eq_false q];rfl)];rfl
theorem ae3:∀ p,nV (pS p) none (some 1)=Ab "/":=iA (by kernel_rfl) (by kernel_rfl) (by kernel_rfl) (by kernel_rfl)
theorem yD {p:_root_.Fin 4} {r h:Int} {Q:ad} {X:ac} (kk:Q (.int r) L):ae c (n+1) (.ref 696) [.int r,.int h,.str (pS p)] L Q X:=by
 refine (rW λa=>@aa _ _ _ _ _ _ _ _ _ _ 12 ?_).fn
 intro GL
 show[Am _ (Ah rfl ?_),ajn (by rw [ae3];decide+kernel)]
 rw [ae3]
 exact kk
end
end Mine
namespace Mine
open PySem PySem.W PyProof.Rows PySem.Calls
set_option genCtorIdx true in
inductive Th where
 | oct (b:List UInt8)
 | lnk (p:_root_.Fin 4)
structure FN where
 th:Th
 mode:Int
structure Fs where
 pt:_root_.Fin 4->Option Int
 nd:Int->FN
noncomputable def Th.sort:Th->Int
 | .oct _=>0
 | .lnk _=>2
noncomputable def Th.bs:Th->List UInt8
 | .oct b=>b
 | .lnk p=>bA (pS p)
noncomputable def enc (F:Fs) (p:_root_.Fin 4) (n:Int):Int:=n * 4+(if p=3 then 1 else (F.nd n).th.sort)
noncomputable def bY (F:Fs) (ps:List (_root_.Fin 4)):List bP:=ps.filterMap λp=>(F.pt p).map λn=>(dp p,enc F p n)
noncomputable def dirOf (F:Fs) (p:_root_.Fin 4):Option Int:=if p=2 then F.pt 3 else some 2
noncomputable def cnt (F:Fs) (n:Int):Nat:=(([0,1,2]:List (_root_.Fin 4)).filter λp=>decide (F.pt p=some n)).length
structure bq (s:OS) (n:Int) (fn:FN) (links:Int):Prop where
 ob:∃ o z,s.get n=some o∧dw o∧o.block=16∧o.bonus=bO z∧cf z∧z.links=links∧z.mode=fn.mode∧z.sort=fn.th.sort∧z.size=fn.th.bs.length∧∀ j:Int,0≤j->cont o j=fn.th.bs.getD j.toNat 0
 len:fn.th.bs.length≤100
 lnk:∀ p,fn.th=.lnk p->p≠3
structure aT (s:OS) (k:Int) (rows:List bP) (mode links:Int):Prop where
 zap:bE s k rows
 zn:∃ z,amp s k z∧z.sort=1∧z.mode=mode∧z.links=links
noncomputable def cz (F:Fs):Int:=if (F.pt 3).isSome then 3 else 2
structure aB (s:OS) (t:Int) (F:Fs):Prop where
 ok:cK s t
 t3:3≤t
 t9:t≤900
 master:∃ rows,bE s 1 rows∧bB rows (Ab "root")=some 2∧bB rows (Ab "unlinked")=some 3
 root:∃ rows,rows.Perm (bY F [0,1,3])∧aT s 2 rows 0 (cz F)
 fold:∀ k,F.pt 3=some k->4≤k∧∃ rows,rows.Perm (bY F [2])∧aT s k rows 493 2
 nofo:F.pt 3=none->F.pt 2=none
 file:∀ p n,p≠3->F.pt p=some n->4≤n∧F.pt 3≠some n∧bq s n (F.nd n) (cnt F n)
noncomputable def cv (F:Fs):Nat->_root_.Fin 4->Option Int
 | 0,_=>none
 | k+1,p=>match F.pt p with
  | none=>none
  | some n=>if p=3 then some n else match (F.nd n).th with
   | .oct _=>some n
   | .lnk q=>cv F k q
theorem cA:∀ p,dH (dp p):=iA ⟨by decide+kernel,by decide+kernel,by decide+kernel,by kernel_rfl⟩ ⟨by decide+kernel,by decide+kernel,by decide+kernel,by kernel_rfl⟩ ⟨by decide+kernel,by decide+kernel,by decide+kernel,by kernel_rfl⟩ ⟨by decide+kernel,by decide+kernel,by decide+kernel,by kernel_rfl⟩
theorem qW:∀ p,(dp p).cps.toList.length≤8:=iA (by decide+kernel) (by decide+kernel) (by decide+kernel) (by decide+kernel)
theorem aib:∀ p q:_root_.Fin 4,dp p=dp q->p=q:=by decide+kernel
theorem qX {p q:_root_.Fin 4} (h:dp p=dp q):p=q:=aib p q h
theorem aic:∀ p:_root_.Fin 4,decide (dp p=Ab ".")=false∧decide (dp p=Ab "..")=false:=by decide+kernel
theorem ae4 {p:_root_.Fin 4}:decide (dp p=Ab ".")=false∧decide (dp p=Ab "..")=false:=aic p
theorem f7 {x:Str} {y:Int}:∀ {rows:List bP},(rows.map Ar).Nodup->(bB rows x=some y↔(x,y)∈rows)
 | [],_=>⟨λh=>(by cases h),λh=>(by cases h)⟩
 | r::rows,nd=>by
  have nd:=List.nodup_cons.mp nd
  have ih:=f7 (x:=x) (y:=y) nd.2
  by_cases q:r.1=x
  ·have e:bB (r::rows) x=some r.2:=by unfold bB;rw [AO,if_pos q];rfl
   rw [e]
   constructor
   ·intro h;cases h;rw [← q];exact .head _
   ·intro h
    cases h with
    | head=>rfl
    | tail _ h=>exact (nd.1 (q▸AN (f:=Ar) h)).elim
  ·have e:bB (r::rows) x=bB rows x:=by unfold bB;rw [AO,if_neg q]
   rw [e,ih]
   constructor
   ·exact .tail _
   ·intro h
    cases h with
    | head=>exact (q rfl).elim
    | tail _ h=>exact h
theorem lu (F:Fs):∀ ps:List (_root_.Fin 4),ps.Nodup->((bY F ps).map Ar).Nodup∧∀ x∈(bY F ps).map Ar,∃ p∈ps,x=dp p
 | [],_=>⟨BB,λO h=>(by cases h)⟩
 | p::ps,nd=>by
  have nd:=List.nodup_cons.mp nd
  refine bS (lu F ps nd.2) λh1 h2=>?_
  unfold bY at h1 h2 ⊢
  rw [AO]
  cases e:F.pt p with
  | none=>exact ⟨h1,λx hx=>let ⟨q,hq,z⟩:=h2 x hx;⟨q,.tail _ hq,z⟩⟩
  | some n=>
   refine ⟨List.nodup_cons.mpr ⟨λhx=>?_,h1⟩,λx hx=>?_⟩
   ·refine an (h2 _ hx) λq hq z=>?_
    have z:dp p=dp q:=z
    exact nd.1 (qX z▸hq)
   ·cases hx with
    | head=>exact ⟨p,.head _,rfl⟩
    | tail _ hx=>refine an (h2 _ hx) λq hq z=>?_;exact ⟨q,.tail _ hq,z⟩
theorem f8 {F:Fs} {ps:List (_root_.Fin 4)} {x:Str} {y:Int}:(x,y)∈bY F ps↔∃ p∈ps,∃ n,F.pt p=some n∧x=dp p∧y=enc F p n:=by
 unfold bY
 rw [HW]
 constructor
 ·rintro ⟨p,hp,h⟩
  refine an (Option.map_eq_some_iff.mp h) λn h1 h2=>?_
  cases h2
  exact ⟨p,hp,n,h1,rfl,rfl⟩
 ·rintro ⟨p,hp,n,h1,rfl,rfl⟩
  exact ⟨p,hp,by rw [h1];rfl⟩
theorem jR {F:Fs} {ps:List (_root_.Fin 4)} {rows:List bP} {p:_root_.Fin 4} (h:rows.Perm (bY F ps)) (nd:ps.Nodup) (hp:p∈ps):bB rows (dp p)=(F.pt p).map (enc F p):=by
 have n2:(rows.map Ar).Nodup:=(h.map _).nodup_iff.mpr (lu F ps nd).1
 cases e:F.pt p with
 | some n=>exact (f7 n2).mpr (h.mem_iff.mpr (f8.mpr ⟨p,hp,n,e,rfl,rfl⟩))
 | none=>
  cases f:bB rows (dp p) with
  | none=>rfl
  | some y=>
   obtain ⟨q,_,n,h1,h2,_⟩:=f8.mp (h.mem_iff.mp ((f7 n2).mp f))
   rw [← qX h2,e] at h1;cases h1
theorem aB.dir {s:OS} {t:Int} {F:Fs} (r:aB s t F) (p:_root_.Fin 4) {k:Int} (h:dirOf F p=some k):∃ rows mode links,aT s k rows mode links∧bB rows (dp p)=(F.pt p).map (enc F p):=by
 unfold dirOf at h
 by_cases q:p=2
 ·rw [if_pos q] at h
  obtain ⟨_,rows,h1,h2⟩:=r.fold k h
  exact ⟨rows,_,_,h2,jR h1 (by decide) (q▸.head _)⟩
 ·rw [if_neg q] at h
  cases h
  show[an r.root λrows h1 h2=>?_,⟨rows,_,_,h2,jR h1 (by decide) ?_⟩]
  revert p
  exact iA (λO=>by decide) (λO=>by decide) (λq=>absurd rfl q) (λO=>by decide)
theorem uL (t:Th):t.sort=0∨t.sort=2:=by cases t with
 | oct _=>exact .inl rfl
 | lnk _=>exact .inr rfl
theorem pz (F:Fs) (p:_root_.Fin 4) (n:Int):enc F p n / 4=n∧enc F p n % 4=if p=3 then 1 else (F.nd n).th.sort:=by
 unfold enc
 have:=uL (F.nd n).th
 by_cases q:p=3
 ·rw [if_pos q];exact d4 (by decide) (by decide)
 ·rw [if_neg q];exact d4 (this.elim (λe=>by rw [e];decide) λe=>by rw [e];decide) (this.elim (λe=>by rw [e];decide) λe=>by rw [e];decide)
theorem aj1:∀ p:_root_.Fin 4,(∀ k∈(pS p).cps.toList,32≤k∧k <127)∧(pS p).cps.toList.length≤4:=by decide+kernel
theorem qY {f:Int->UInt8} {b:List UInt8} (h:∀ j:Int,0≤j->f j=b.getD j.toNat 0):de f 0 b.length=b:=by
 refine C2 dv λj h1 h2=>?_
 have g:=jl (f:=f) (i:=0) (k:=b.length) h2
 rw [Ak,AB h1] at g
 show[Iq g]
 rw [h _ (by lia),show ((0:Int)+(j:Int)).toNat=j by lia,Ak,AB h2];rfl
section
variable {c:Cx} {n:Nat} {L L0:ah}
theorem fz {s:OS} {k:Int} {z:Zn} {x:Str} (hm:∀ p∈aQ s,p∈c.R++L) (h:amp s k z) (h1:z.sort=1) {Q:ad} {X:ac} (kk:Q .none L):ae c (n+7) (.ref 689) [.obj s.x,.int k,.str x] L Q X:=by
 refine ae.norm (ny λa=>@aa _ _ _ _ _ _ _ _ _ _ 12 ?_).fn
 intro GL
 show(aK (by exact hm) h λy d=>?_,aI (Aa _ (.head _)) rfl rfl,fE (neF h1),⟨L,.tail,kk⟩)
theorem ku {s:OS} {k l:Int} {fn:FN} {p:_root_.Fin 4} (hm:∀ p∈aQ s,p∈c.R++L) (h:bq s k fn l) (hp:fn.th=.lnk p) {Q:ad} {X:ac} (kk:Q (.str (pS p)) L):ae c (n+7) (.ref 682) [.obj s.x,.int k] L Q X:=by
 refine yT h.ob λo z ho oo O hb zk O O O hz hc=>?_
 have hl:=h.len
 have hpp:=aj1 p
 rw [hp] at hc hz hl
 have hz:z.size=(bA (pS p)).length:=hz
 have hc:∀ j:Int,0≤j->cont o j=(bA (pS p)).getD j.toNat 0:=hc
 have hl:(bA (pS p)).length≤100:=hl
 refine ae.norm (nw λa=>@aa _ _ _ _ _ _ _ _ _ _ 12 ?_).fn
 intro GL
 show[aU (.inst (by exact hm _ (.head _)) rfl rfl rfl),aK (by exact hm) ⟨⟨o,ho,oo,hb⟩,zk⟩ λy d=>?_,aI (Aa _ (.head _)) rfl rfl,(yx (by exact λp hp=>bC (hm p hp)) ho oo (by decide) zk.size.1 (by lia) ?_).le (lE n 2 6 rfl)]
 rw [hz,AX,qY hc]
 show[aU .joinS,ph nO,sr (λv=>some (.str ⟨#[v.i.toNat]⟩)) (by rw [Af];exact Ai hl (by decide)) (λC D o v hv=>?_) ?_]
 ·refine an (List.mem_map.mp hv) λk hk q1'=>?_
  subst q1'
  exact ape (Av _) (Ck (Int.ofNat_lt.mpr k.toNat_lt)) ⟨rfl,rfl⟩
 refine uG (ys:=(bA (pS p)).map λx=>(⟨#[x.toNat]⟩:Str)) (by rewrite [c6,Aw,Aw];rfl) ?_ ⟨L,.tail,kq ?_ kk⟩
 ·have e:((bA (pS p)).map λx=>(⟨#[x.toNat]⟩:Str)).map (·.length)=(bA (pS p)).map λO=>1:=by rw [Aw];rfl
  rw [e,Jb,Gs,Af]
  show _ * 1+_ * 0≤_
  lia
 ·show[congrArg V.str]
  have:=s8 (bA (pS p))
  rw [qP hpp.1] at this
  exact this
end
noncomputable def lw (F:Fs) (fol:Bool) (m:Nat) (p:_root_.Fin 4):Option Int:=if fol then cv F (9 - m) p else F.pt p
inductive Gd (F:Fs) (fol:Bool) (R:Option Int):Int->List Str->Nat->Prop
 | done {h:Int} {m:Nat} (e:R=some h):Gd F fol R h [] m
 | one {p:_root_.Fin 4} {m:Nat} {h:Int} (hd:dirOf F p=some h) (e:R=lw F fol m p):Gd F fol R h [dp p] m
 | two {m:Nat} (e:R=lw F fol m 2):Gd F fol R 2 [dp 3,dp 2] m
theorem Gd.start {F:Fs} {fol:Bool} (p:_root_.Fin 4) (m:Nat):Gd F fol (lw F fol m p) 2 (nm4 p) m:=by
 revert p
 exact iA (.one rfl rfl) (.one rfl rfl) (.two rfl) (.one rfl rfl)
theorem Gd.next {s:OS} {t:Int} {F:Fs} {fol:Bool} {R:Option Int} {h:Int} {x:Str} {rest:List Str} {m:Nat} (r:aB s t F) (g:Gd F fol R h (x::rest) m):
 ∃ p rows mode links,x=dp p∧aT s h rows mode links∧bB rows (dp p)=(F.pt p).map (enc F p)∧((rest=[]∧R=lw F fol m p)∨(p=3∧rest=[dp 2]∧R=lw F fol m 2)):=by
 cases g with
 | one hd e=>
  show(e31 (r.dir _ hd) λrows mode links h1 h2=>?_,⟨_,rows,mode,links,rfl,h1,h2,.inl ⟨rfl,e⟩⟩)
 | two e=>
  show(e31 (r.dir 3 (k:=2) rfl) λrows mode links h1 h2=>?_,⟨3,rows,mode,links,rfl,h1,h2,.inr ⟨rfl,rfl,e⟩⟩)
theorem og {F:Fs} {fol:Bool} {m:Nat} {p:_root_.Fin 4} (h:F.pt p=none):lw F fol m p=none:=by
 unfold lw
 cases fol with
 | false=>exact h
 | true=>
  show cv F (9 - m) p=none
  cases 9 - m with
  | zero=>rfl
  | succ k=>unfold cv;rw [h]
theorem zs {F:Fs} {fol:Bool} {m:Nat} {p:_root_.Fin 4} {n:Int} (hm:m≤8) (h:F.pt p=some n) (hs:p=3∨fol=false∨∀ q,(F.nd n).th≠.lnk q):lw F fol m p=some n:=by
 unfold lw
 cases fol with
 | false=>exact h
 | true=>
  show cv F (9 - m) p=some n
  rw [Gh hm]
  unfold cv
  rw [h]
  show (if p=3 then some n else _)=_
  by_cases q:p=3
  ·rw [if_pos q]
  ·rw [if_neg q]
   cases e:(F.nd n).th with
   | oct b=>rfl
   | lnk q2=>exact (hs.elim (λz=>q z) λz=>z.elim (λz=>F9 z) λz=>z q2 e).elim
theorem aa9 {F:Fs} {m:Nat} {p q:_root_.Fin 4} {n:Int} (hm:m≤8) (h:F.pt p=some n) (h3:p≠3) (e:(F.nd n).th=.lnk q):lw F true m p=lw F true (m+1) q:=by
 show cv F (9 - m) p=cv F (9 - (m+1)) q
 rw [Gh hm,Ic]
 conv=>lhs;unfold cv
 rw [h]
 show (if p=3 then some n else _)=_
 rw [if_neg h3,e]
theorem aba {α:Type} {x:α} {l:List α}:aC (x::l) (some 1) none=l:=by
 rw [show (1:Int)=((1:Nat):Int) from rfl,ls (BD (BQ _))];rfl
section
variable {c:Cx} {n:Nat} {L L0:ah}
inductive aqv (s:OS) (F:Fs) (fol:Bool) (R:Option Int) (path:Str) (L:ah) (k:Nat) (m1:Loc) (L1:ah):Prop
 | mk (here:Int) (todo:List Str) (many:Nat) (h0:m1.lookup ("view":Str)=some (.obj s.x)) (h1:m1.lookup ("root":Str)=some (.int 2)) (h2:m1.lookup ("path":Str)=some (.str path)) (h3:m1.lookup ("follows":Str)=some (.bool fol)) (h4:m1.lookup ("here":Str)=some (.int here)) (h5:m1.lookup ("todo":Str)=some (.list (todo.map .str))) (h6:m1.lookup ("many":Str)=some (.int many)) (h7:L1=L) (h8:Gd F fol R here todo many) (h9:many≤8) (h10:todo.length≤2) (h11:3 * (9 - many)+todo.length≤k)
theorem qZ {s:OS} {t:Int} {F:Fs} {fol:Bool} {R:Option Int} {path:Str} {todo:List Str} (hm:∀ p∈aQ s,p∈c.R++L) (r:aB s t F) (hn:tm path todo) (g:Gd F fol R 2 todo 0) {Q:ad} {X:ac} (kk:∀ k,R=some k->Q (.int k) L) (kx:∀ C,dk.contains C=true->R=none->X C L):ae c (n+9) (.ref 703) [.obj s.x,.int 2,.str path,.bool fol] L Q X:=by
 refine (vB λa=>@aa _ _ _ _ _ _ _ _ _ _ 12 ?_).fn
 intro GL
 show[oY (Am _ (Ah rfl ?_)),(gR hn ?_).le (lE n 1 8 rfl),Am _ (Ah rfl (Ah rfl ?_)),exL (aqv s F fol R path L)]
 intro JJ
 have tl:todo.length≤2:=by cases g <;> exact Bq rfl
 refine Am 29 (Ah ⟨2,todo,0,rfl,rfl,rfl,rfl,rfl,rfl,rfl,rfl,g,by decide,tl,BK tl 27⟩ λk m1 L1 J=>?_)
 intro GJ
 obtain ⟨here,todo,many,j1,j2,j3,j4,j5,j6,j7,rfl,g,j8,j9,j10⟩:=J
 show[aV j6,xk (pd ?_)]
 cases todo with
 | nil=>
  show[aV j5]
  cases g with
  | done e=>exact kk here e
 | cons x rest=>
 refine e43 (g.next r) λp rows mode links q1' da hf alt=>?_
 subst q1'
 show[sC da.zn λz hz hz1 O O=>?_,oY (Am _ (Ah rfl ?_)),aV j6,ui (by rw [Af];exact Ai j9 (by decide)) (by decide) rfl,aV j6,Am _ (Ah rfl ?_),uj (by rw [Af];exact Ai j9 (by decide)),Am _ (Ah rfl (Ah rfl ?_))]
 rw [A0,aba]
 show[aV j1,aV j5,aV j3,(fz (by exact hm) hz hz1 ?_).le (lE n 7 8 rfl),fE ae4.1,fE ae4.2,aV j1,aV j5,jP (by exact hm) da.zap (cA p)]
 rw [hf]
 cases e:F.pt p with
 | none=>
  show[Ah (Bz _ _),aV j3,kZ (Ai (BK hn.len 15) (by decide)),⟨_,rfl,kx _ rfl ?_⟩]
  rcases alt with ⟨_,a⟩ | ⟨q,_,a⟩
  ·exact a.trans (og e)
  ·exact a.trans (og (r.nofo (q▸e)))
 | some nn=>
 show[bS (pz F p nn) λhv hs=>?_,eH (by show 2≤_;decide) rfl (by decide) rfl]
 rw [hs]
 generalize hsg:(if p=3 then (1:Int) else (F.nd nn).th.sort)=sg
 refine xj (λq=>?_) λq=>?_
 ·have q:=of_decide_eq_true q
  have p3:p≠3:=λz=>by rw [if_pos z,q] at hsg;cases hsg
  rw [if_neg p3] at hsg
  obtain ⟨qq,hq⟩:∃ qq,(F.nd nn).th=.lnk qq:=by
   cases e2:(F.nd nn).th with
   | lnk qq=>exact ⟨qq,rfl⟩
   | oct b=>rw [e2] at hsg;exact absurd (show (0:Int)=2 from hsg.trans q) (by decide)
  rcases alt with ⟨a,aR⟩ | ⟨a,_⟩
  ·subst a
   show[xk (pd ?_),aV j4]
   cases fol with
   | true=>
    have lk:=aa9 (F:=F) (m:=many) j8 e p3 hq
    show[aV j7,xj (λy=>?_) λy=>?_]
    ·have y:=of_decide_eq_true y
     show[Ah (Bz _ _),aV j3,kZ (Ai (BK hn.len 16) (by decide)),⟨_,rfl,kx _ rfl (aR.trans (lk.trans ?_))⟩]
     rw [EJ j8 (Int.ofNat_le.mp (Ck y))];rfl
    ·have y:=of_decide_eq_false y
     show[aV j1,eH (by show 2≤_;decide) rfl (by decide) rfl]
     rw [hv]
     show[(ku (by exact hm) (r.file p nn p3 e).2.2 hq ?_).le (lE n 7 8 rfl),oY (Am _ (Ah rfl ?_)),aV j2,aV j5,(yD ?_).le (lE n 1 8 rfl),(gR (jQ qq) ?_).le (lE n 1 8 rfl)]
     have nl:(nm4 qq).length≤2:=by revert qq;exact λqq O O=>iA (P:=λqq=>(nm4 qq).length≤2) (by decide+kernel) (by decide+kernel) (by decide+kernel) (by decide+kernel) qq
     show[uh (by rw [Af];exact Ai nl (by decide)),Am _ (Ah rfl (Ah rfl ?_))]
     have mm:many+1≤8:=Int.ofNat_le.mp (Int.not_lt.mp y)
     refine ⟨3 * (9 - (many+1))+(nm4 qq).length,ar7 j10 mm nl,2,nm4 qq,many+1,j1,j2,j3,j4,rfl,?_,rfl,rfl,?_,mm,nl,AL _⟩
     ·exact congrArg (λl=>some (V.list l)) (A6 _)
     ·rw [aR,lk];exact .start qq _
   | false=>
    show[eH (by show 2≤_;decide) rfl (by decide) rfl]
    rw [hv]
    exact ⟨3 * (9 - many),j10,nn,[],many,j1,j2,j3,j4,rfl,rfl,j7,rfl,.done (aR.trans e),j8,by decide,AL _⟩
  ·exact (p3 a).elim
 ·have q:=of_decide_eq_false q
  show[eH (by show 2≤_;decide) rfl (by decide) rfl]
  rw [hv]
  have nl:∀ qq,p≠3->(F.nd nn).th≠.lnk qq:=λqq h3 z=>by
   rw [if_neg h3,z] at hsg
   exact q hsg.symm
  refine ⟨3 * (9 - many)+rest.length,j10,nn,rest,many,j1,j2,j3,j4,rfl,rfl,j7,rfl,?_,j8,Ia j9,AL _⟩
  rcases alt with ⟨rfl,a⟩ | ⟨a,rfl,a2⟩
  ·refine .done (a.trans (zs j8 e ?_))
   by_cases h3:p=3
   ·exact .inl h3
   ·exact .inr (.inr λqq=>nl qq h3)
  ·exact .one (by subst a;exact e) a2
end
structure FT where
 ft:Addr
 ftd:Addr
 fv:Addr
 fvd:Addr
 od:Addr
noncomputable abbrev wF (x:Addr):List (Str × V):=[(Ab "view",.obj x),(Ab "root",.int 2)]
noncomputable abbrev ftF (T:FT) (x:Addr):List (Str × V):=[(Ab "objset",.obj x),(Ab "now",.int 3),(Ab "seen",.obj T.fv),(Ab "unlinked",.int 3),(Ab "opened",.obj T.od)]
noncomputable abbrev hZ (T:FT) (x:Addr):ah:=[(T.ft,.inst 973 T.ftd (ftF T x)),(T.fv,.inst 797 T.fvd (wF x)),(T.od,.dI [])]
noncomputable def wG:_root_.Fin 4->List Str:=pk4 [] [] [Ab "f"] []
noncomputable def aqw:_root_.Fin 4->Str:=pk4 (Ab "") (Ab "") (Ab "f") (Ab "")
theorem aid:∀ p,nm4 p=wG p++[dp p]:=iA rfl rfl rfl rfl
theorem abb:∀ p,tm (aqw p) (wG p):=iA uK uK aia uK
theorem ae6:∀ p,Iw (Ab "/") (wG p)=aqw p:=iA (by kernel_rfl) (by kernel_rfl) (by kernel_rfl) (by kernel_rfl)
theorem aie:∀ p,(wG p).length≤1∧((wG p).map (·.length)).sum≤1:=iA (by decide+kernel) (by decide+kernel) (by decide+kernel) (by decide+kernel)
theorem yE {α:Type} {l:List α} {x:α}:aC (l++[x]) none (some (-1))=l:=by
 unfold aC
 show ((l++[x]).drop 0).take (Cq (l++[x]).length (-1) - 0)=l
 rw [show Cq (l++[x]).length (-1)=l.length from by
  unfold Cq
  rw [As,if_pos (by decide)]
  show (max 0 (min (-1+((l.length+1:Nat):Int)) ((l.length+1:Nat):Int))).toNat=_
  rw [m1];exact ai8 (Br _)]
 rw [Ea,Nat.sub_zero,List.take_left]
theorem aqx {F:Fs} {fol:Bool}:lw F fol 0 3=F.pt 3:=by
 cases e:F.pt 3 with
 | none=>exact og e
 | some n=>exact zs (BQ _) e (.inl rfl)
theorem ef {s:OS} {t:Int} {F:Fs} (r:aB s t F) {k:Int}:∀ (m:Nat) (p:_root_.Fin 4),p≠3->cv F m p=some k->∃ q b,q≠3∧F.pt q=some k∧(F.nd k).th=.oct b
 | 0,_,_,h=>by cases h
 | m+1,p,h3,h=>by
  unfold cv at h
  cases e:F.pt p with
  | none=>rw [e] at h;cases h
  | some n=>
   rw [e] at h
   have h:(if p=3 then some n else match (F.nd n).th with | .oct _=>some n | .lnk q=>cv F m q)=some k:=h
   rw [if_neg h3] at h
   cases f:(F.nd n).th with
   | oct b=>
    rw [f] at h
    have h:some n=some k:=h
    cases h
    exact ⟨p,b,h3,e,f⟩
   | lnk q=>
    rw [f] at h
    exact ef r m q ((r.file p n h3 e).2.2.lnk q f) h
theorem Gd.dir (F:Fs) (p:_root_.Fin 4):Gd F true (dirOf F p) 2 (wG p) 0:=by
 revert p
 exact iA (.done rfl) (.done rfl) (.one (p:=3) rfl aqx.symm) (.done rfl)
section
variable {c:Cx} {n:Nat} {L L0:ah}
theorem ae.use {f:Ae} {vs:List V} {Q Q0:ad} {X X0:ac} (h:ae c n f vs L Q0 X0) (q:∀ v L',Q0 v L'->Q v L') (x:∀ C L',X0 C L'->X C L'):ae c n f vs L Q X:=h.mono q x (AL _)
theorem ae7 {Q:ad} {X:ac} {l:List V} {x:V} (hl:l.length≤100) (h:Q x L):du c n (.list (l++[x])) (.int (-1)) L Q X:=by
 have e:(l++[x]).length=l.length+1:=by rw [As];rfl
 refine sQ (by rw [e];lia) (by decide) (by rw [e];lia) (v:=x) ?_ h
 rw [e,show (-1+((l.length+1:Nat):Int)).toNat=l.length by lia,List.getElem?_append_right (AL _),Nat.sub_self];rfl
theorem eQ {s:OS} {t:Int} {F:Fs} {p:_root_.Fin 4} (hm:∀ p∈aQ s,p∈c.R++L) (r:aB s t F) {Q:ad} {X:ac} (kk:∀ k,dirOf F p=some k->Q (.tup [.int k,.str (dp p)]) L) (kx:∀ C,dk.contains C=true->dirOf F p=none->X C L):ae c (n+10) (.ref 710) [.obj s.x,.int 2,.str (pS p)] L Q X:=by
 have hl:=aie p
 refine (rX λa=>@aa _ _ _ _ _ _ _ _ _ _ 12 ?_).fn
 intro GL
 refine (gR (jQ p) ?_).le (lE n 1 9 rfl)
 rw [aid,AT,A0,Iy]
 show[xk (y8 ?_),fE (by cases wG p <;> rfl),qv,ae7 (by rw [Af];lia),aO (ns:=[Ab ".",Ab ".."]) rfl,fE (cA p).ne,aU .joinS,qv,Am _ (Ah rfl ?_),uj (by rw [As,Af];show _+1≤_;lia)]
 rw [yE]
 show[uG (ys:=wG p) rfl (by show _+_ * 1≤_;lia)]
 rw [ae6]
 show(qZ (by exact hm) r (abb p) (Gd.dir F p) (λk hk=>?_) kx,e31 (r.dir p hk) λrows mode links da hf=>?_,sC da.zn λz hz hz1 O O=>?_,(fz (by exact hm) hz hz1 ?_).le (lE n 7 9 rfl),qv,ae7 (by rw [Af];lia),kk k hk)
theorem w_find {s:OS} {t:Int} {F:Fs} {T:FT} {p:_root_.Fin 4} (hm:∀ q∈aQ s,q∈c.R++L) (hv:(T.fv,aj.inst 797 T.fvd (wF s.x))∈c.R++L) (r:aB s t F) {Q:ad} {X:ac} (kk:∀ k,cv F 9 p=some k->Q (.int k) L) (kx:∀ C,dk.contains C=true->cv F 9 p=none->X C L):ae c (n+10) (.ref 739) [.obj T.fv,.str (pS p)] L Q X:=by
 refine (kO λa=>@aa _ _ _ _ _ _ _ _ _ _ 12 ?_).fn
 intro GL
 show(aI (by exact hv) rfl rfl,aI (by exact hv) rfl rfl,qZ (by exact hm) r (jQ p) (Gd.start (fol:=true) p 0) kk kx)
theorem mE {s:OS} {t:Int} {F:Fs} {T:FT} {p:_root_.Fin 4} (hm:∀ q∈aQ s,q∈c.R++L) (hv:(T.fv,aj.inst 797 T.fvd (wF s.x))∈c.R++L) (r:aB s t F) {Q:ad} {X:ac} (kk:∀ k,F.pt p=some k->Q (.int k) L) (kx:∀ C,dk.contains C=true->F.pt p=none->X C L):ae c (n+10) (.ref 739) [.obj T.fv,.str (pS p),.bool false] L Q X:=by
 refine (iL λa=>@aa _ _ _ _ _ _ _ _ _ _ 12 ?_).fn
 intro GL
 show(aI (by exact hv) rfl rfl,aI (by exact hv) rfl rfl,qZ (by exact hm) r (jQ p) (Gd.start (fol:=false) p 0) kk kx)
theorem js {x:V} {m:Int} (h0:0≤m) (h1:m <65536) {Q:ad} {X:ac} (kk:Q .none L):ae c (n+1) (.ref 844) [x,.int m] L Q X:=by
 refine (fN λa=>@aa _ _ _ _ _ _ _ _ _ _ 12 ?_).fn
 intro GL
 show(d0 h0,fE (b:=!decide (m≤65535)) (by rw [decide_eq_true (show m≤65535 by lia)];rfl),kk)
theorem ju {s:OS} {t:Int} {F:Fs} {T:FT} {p:_root_.Fin 4} (hm:∀ q∈aQ s,q∈c.R++L) (hT:∀ q∈hZ T s.x,q∈c.R++L) (r:aB s t F) {Q:ad} {X:ac} (kk:∀ k,dirOf F p=some k->F.pt p=none->Q (.tup [.int k,.str (dp p)]) L) (kx:∀ C,dk.contains C=true->(dirOf F p=none∨F.pt p≠none)->X C L):ae c (n+11) (.ref 837) [.obj T.ft,.str (pS p)] L Q X:=by
 have h0:=hT _ (.head _)
 have h1:=hT _ (.tail _ (.head _))
 refine (fM λa=>@aa _ _ _ _ _ _ _ _ _ _ 12 ?_).fn
 intro GL
 show[aI (by exact h0) rfl rfl,aI (by exact h0) rfl rfl,aI (by exact h1) rfl rfl,eQ (by exact hm) r (λk hk=>?_) λC h e=>kx C h (.inl e),e31 (r.dir p hk) λrows mode links da hf=>?_,(dc (cA p) ?_).le (lE n 2 10 rfl),aI (by exact h0) rfl rfl,(jP (by exact hm) da.zap (cA p) ?_).le (lE n 8 10 rfl)]
 rw [hf]
 cases e:F.pt p with
 | some nn=>
  show(Ah (Bz _ _),kZ (by have:=(jQ p).len;show 22+_≤_;lia),⟨_,rfl,kx _ rfl (.inr (by rw [e];exact EP nn))⟩)
 | none=>exact kk k hk e
theorem tn {s:OS} {t:Int} {F:Fs} {T:FT} {p:_root_.Fin 4} (hp:p≠3) (hm:∀ q∈aQ s,q∈c.R++L) (hT:∀ q∈hZ T s.x,q∈c.R++L) (r:aB s t F) {Q:ad} {X:ac} (kk:∀ k,cv F 9 p=some k->Q (.int k) L) (kx:∀ C,dk.contains C=true->cv F 9 p=none->X C L):ae c (n+11) (.ref 886) [.obj T.ft,.str (pS p)] L Q X:=by
 have h0:=hT _ (.head _)
 have h1:=hT _ (.tail _ (.head _))
 refine ae.norm (ip λa=>@aa _ _ _ _ _ _ _ _ _ _ 12 ?_).fn
 intro GL
 show(aI (by exact h0) rfl rfl,aU (.inst (by exact h1) rfl rfl rfl),w_find (by exact hm) (by exact h1) r (λk hk=>?_) λC h e=>⟨L,.rfl,kx C h e⟩,fg (ef r 9 p hp hk) λq b q3 hq hb=>?_,yT ((r.file q k q3 hq).2.2.ob) λo z ho oo O hbo zk O O hs O O=>?_,aI (by exact h0) rfl rfl,(aK (by exact hm) ⟨⟨o,ho,oo,hbo⟩,zk⟩ λy d=>?_).le (lE n 6 10 rfl),aI (Aa _ (.head _)) rfl rfl,cQ (show ¬ z.sort=1 by rw [hs,hb];exact λz=>absurd (show (0:Int)=1 from z) (by decide)),⟨_,.tail,kk k hk⟩)
end
noncomputable def f9 (p:_root_.Fin 4):List (_root_.Fin 4):=if p=2 then [2] else [0,1,3]
noncomputable def cH (p:_root_.Fin 4):Int:=if p=2 then 493 else 0
noncomputable def aY (F:Fs) (p:_root_.Fin 4):Int:=if p=2 then 2 else cz F
theorem pA:∀ p,p∈f9 p:=by decide+kernel
theorem wH:∀ p,(f9 p).Nodup:=by decide+kernel
theorem aB.dir2 {s:OS} {t:Int} {F:Fs} (r:aB s t F) (p:_root_.Fin 4) {k:Int} (h:dirOf F p=some k):∃ rows,rows.Perm (bY F (f9 p))∧aT s k rows (cH p) (aY F p)∧bB rows (dp p)=(F.pt p).map (enc F p):=by
 unfold dirOf at h
 unfold cH aY
 by_cases q:p=2
 ·rw [if_pos q] at h
  obtain ⟨_,rows,h1,h2⟩:=r.fold k h
  subst q
  exact ⟨rows,h1,h2,jR h1 (by decide) (.head _)⟩
 ·rw [if_neg q] at h
  cases h
  refine an r.root λrows h1 h2=>?_
  have e:f9 p=[0,1,3]:=if_neg q
  rw [e,if_neg q,if_neg q]
  exact ⟨rows,h1,h2,jR h1 (by decide) (e▸pA p)⟩
theorem aB.of {s:OS} {t:Int} {F:Fs} (ok:cK s t) (t3:3≤t) (t9:t≤900) (master:∃ rows,bE s 1 rows∧bB rows (Ab "root")=some 2∧bB rows (Ab "unlinked")=some 3)
 (dirs:∀ p k,p=0∨p=2->dirOf F p=some k->∃ rows,rows.Perm (bY F (f9 p))∧aT s k rows (cH p) (aY F p)) (f4:∀ k,F.pt 3=some k->4≤k) (nofo:F.pt 3=none->F.pt 2=none)
 (file:∀ p n,p≠3->F.pt p=some n->4≤n∧F.pt 3≠some n∧bq s n (F.nd n) (cnt F n)):aB s t F:=
 ⟨ok,t3,t9,master,dirs 0 2 (.inl rfl) rfl,λk h=>⟨f4 k h,dirs 2 k (.inr rfl) h⟩,nofo,file⟩
theorem bE.get {s s':OS} {k:Int} {rows:List bP} (h:bE s k rows) (e:s'.get k=s.get k):bE s' k rows:=by
 obtain ⟨⟨o,a,b⟩,c,d⟩:=h
 exact ⟨⟨o,e.trans a,b⟩,c,d⟩
theorem aT.get {s s':OS} {k m l:Int} {rows:List bP} (h:aT s k rows m l) (e:s'.get k=s.get k):aT s' k rows m l:=by
 obtain ⟨a,z,⟨⟨o,b,c,d⟩,f⟩,g⟩:=h
 exact ⟨a.get e,z,⟨⟨o,e.trans b,c,d⟩,f⟩,g⟩
theorem bq.get {s s':OS} {k l:Int} {fn:FN} (h:bq s k fn l) (e:s'.get k=s.get k):bq s' k fn l:=by
 obtain ⟨⟨o,z,b,c⟩,d,f⟩:=h
 exact ⟨⟨o,z,e.trans b,c⟩,d,f⟩
theorem aT.rows {s s':OS} {k m l:Int} {rows rows':List bP} (h:aT s k rows m l) (z:bE s' k rows') (hb:∀ b,f0 s k b->f0 s' k b):aT s' k rows' m l:=by
 obtain ⟨a,y,⟨⟨o,b,c,d⟩,f⟩,g⟩:=h
 show[⟨z,y,⟨?_,f⟩,g⟩,an (hb _ ⟨o,b,d⟩) λo' h1 h2=>?_,an z.ob λq e1 e2=>?_]
 rw [h1] at e1;cases e1
 exact ⟨o',h1,e2.ok,h2⟩
theorem pB (F:Fs) {ps:List (_root_.Fin 4)} (h:ps.Nodup):(bY F ps).Nodup:=by
 have:=(lu F ps h).1
 exact (List.pairwise_map.mp this).imp λh e=>h (congrArg Ar e)
theorem mG {F F':Fs} {ps:List (_root_.Fin 4)} {rows rows':List bP} {p:_root_.Fin 4} {n e:Int} (nd:ps.Nodup) (hp:p∈ps) (h:rows.Perm (bY F ps)) (h1:F'.pt p=some n) (he:e=enc F' p n)
 (h2:∀ q∈ps,q≠p->F'.pt q=F.pt q∧∀ m,F.pt q=some m->enc F' q m=enc F q m) (h3:rows'.Perm ((rows.filter λr=>decide (r.1≠dp p))++[(dp p,e)])):rows'.Perm (bY F' ps):=by
 show[h3.trans (((h.filter _).append_right _).trans ?_),(Fj ?_ (pB F' nd)).mpr λr=>?_]
 ·refine List.nodup_append.mpr ⟨(pB F nd).filter _,List.nodup_cons.mpr ⟨B5,BB⟩,λa ha b hb=>?_⟩
  rw [List.mem_singleton.mp hb]
  intro z
  exact of_decide_eq_true (List.mem_filter.mp ha).2 (congrArg Ar z)
 ·obtain ⟨x,y⟩:=r
  rw [DT,Jd,f8,f8,List.mem_singleton]
  constructor
  ·rintro (⟨⟨q,hq,m,a,b,d⟩,z⟩ | z)
   ·have z:=of_decide_eq_true z
    have qp:q≠p:=λw=>z (b.trans (by rw [w]))
    exact ⟨q,hq,m,(h2 q hq qp).1.trans a,b,d.trans ((h2 q hq qp).2 m a).symm⟩
   ·cases z
    exact ⟨p,hp,n,h1,rfl,he⟩
  ·rintro ⟨q,hq,m,a,b,d⟩
   by_cases qp:q=p
   ·subst qp
    rw [h1] at a;cases a
    right;rw [b,d,he]
   ·left
    have a2:=(h2 q hq qp).1.symm.trans a
    exact ⟨⟨q,hq,m,a2,b,d.trans ((h2 q hq qp).2 m a2)⟩,decide_eq_true λz=>qp (qX (b.symm.trans z))⟩
theorem q5 {F F':Fs} {ps:List (_root_.Fin 4)} {rows:List bP} {p:_root_.Fin 4} (nd:ps.Nodup) (h:rows.Perm (bY F ps)) (h1:F'.pt p=none)
 (h2:∀ q∈ps,q≠p->F'.pt q=F.pt q∧∀ m,F.pt q=some m->enc F' q m=enc F q m):(rows.filter λr=>decide (r.1≠dp p)).Perm (bY F' ps):=by
 show[(h.filter _).trans,(Fj ((pB F nd).filter _) (pB F' nd)).mpr λr=>?_]
 obtain ⟨x,y⟩:=r
 rw [Jd,f8,f8]
 constructor
 ·rintro ⟨⟨q,hq,m,a,b,d⟩,z⟩
  have z:=of_decide_eq_true z
  have qp:q≠p:=λw=>z (b.trans (by rw [w]))
  exact ⟨q,hq,m,(h2 q hq qp).1.trans a,b,d.trans ((h2 q hq qp).2 m a).symm⟩
 ·rintro ⟨q,hq,m,a,b,d⟩
  have qp:q≠p:=λw=>by rw [w,h1] at a;cases a
  have a2:=(h2 q hq qp).1.symm.trans a
  exact ⟨⟨q,hq,m,a2,b,d.trans ((h2 q hq qp).2 m a2)⟩,decide_eq_true λz=>qp (qX (b.symm.trans z))⟩
theorem oh {F F':Fs} {ps:List (_root_.Fin 4)} (h2:∀ q∈ps,F'.pt q=F.pt q∧∀ m,F.pt q=some m->enc F' q m=enc F q m):bY F' ps=bY F ps:=by
 unfold bY
 induction ps with
 | nil=>rfl
 | cons q ps ih=>
  rw [AO,AO,ih λq hq=>h2 q (.tail _ hq),(h2 q (.head _)).1]
  cases e:F.pt q with
  | none=>rfl
  | some m=>
   show (dp q,enc F' q m)::_=(dp q,enc F q m)::_
   rw [(h2 q (.head _)).2 m e]
theorem ro4 {m s:Int} (h0:0≤m) (h1:m≤901) (a:0≤s) (b:s≤3):0≤m * 4+s∧m * 4+s <1000000:=⟨CH (Ec h0 (by decide)) a,Az (Int.add_le_add (Int.mul_le_mul_of_nonneg_right h1 (by decide)) b) (by decide)⟩
theorem zt (t:Th):0≤t.sort∧t.sort≤3:=by
 rcases uL t with e | e <;> rw [e] <;> decide
theorem jv {c:Cx} {L L0:ah} {s:OS} {T:FT} (hL:L.Perm (aQ s++L0)) (hT:∀ q∈hZ T s.x,q∈L0):∀ q∈hZ T s.x,q∈c.R++L:=λq hq=>Aa _ (hL.mem_iff.mpr (Aa _ (hT q hq)))
noncomputable def gS (z:Zn) (dl sz:Int):Zn:={ z with links:=z.links+dl,size:=sz,changed:=3 }
section
variable {c:Cx} {n:Nat} {L L0:ah}
theorem df {s:OS} {t k dl:Int} {z:Zn} {o:Ob} {T:FT} (hL:L.Perm (aQ s++L0)) (hT:∀ q∈hZ T s.x,q∈L0) (ok:cK s t) (ho:s.get k=some o) (hb:o.bonus=bO z) (zk:cf z) (zk2:cf (gS z dl z.size)) {Q:ad} {X:ac} (kk:∀ x d s',fZ s s' t (·=k)->s'.get k=some { o with bonus:=bO (gS z dl z.size) }->Q (.obj x) ((x,.inst 640 d (eO (gS z dl z.size)))::(aQ s'++L0))):ae c (n+7) (.ref 830) [.obj T.ft,.int k,.int dl] L Q X:=by
 have hm:=ci (c:=c) hL
 have h0:=jv (c:=c) hL hT _ (.head _)
 refine ae.norm (iN λa=>@aa _ _ _ _ _ _ _ _ _ _ 12 ?_).fn
 intro GL
 show(aI (by exact h0) rfl rfl,aK (by exact hm) ⟨⟨o,ho,ok.ok _ _ ho,hb⟩,zk⟩ λy d=>?_,aI (Aa _ (.head _)) rfl rfl,ak .here rfl,aI (Aa _ (.head _)) rfl rfl,ak .here rfl,aI (by exact bC h0) rfl rfl,ak .here rfl,aI (by exact bC h0) rfl rfl,(bU (z:=gS z dl z.size) (x:=y) (d:=d) (L0:=(y,.inst 640 d (eO (gS z dl z.size)))::L0) ((hL.cons _).trans List.perm_middle.symm) ok ho zk2 (Aa _ (.head _)) λs' st g=>?_).le (lE n 5 6 rfl),⟨_,.of AC,kk y d s' st g⟩)
theorem oi {s:OS} {t k dl sz:Int} {z:Zn} {o:Ob} {T:FT} (hL:L.Perm (aQ s++L0)) (hT:∀ q∈hZ T s.x,q∈L0) (ok:cK s t) (ho:s.get k=some o) (hb:o.bonus=bO z) (zk:cf z) (zk2:cf (gS z dl sz)) {Q:ad} {X:ac} (kk:∀ x d s',fZ s s' t (·=k)->s'.get k=some { o with bonus:=bO (gS z dl sz) }->Q (.obj x) ((x,.inst 640 d (eO (gS z dl sz)))::(aQ s'++L0))):ae c (n+7) (.ref 830) [.obj T.ft,.int k,.int dl,.int sz] L Q X:=by
 have hm:=ci (c:=c) hL
 have h0:=jv (c:=c) hL hT _ (.head _)
 refine ae.norm (gz λa=>@aa _ _ _ _ _ _ _ _ _ _ 12 ?_).fn
 intro GL
 show(aI (by exact h0) rfl rfl,aK (by exact hm) ⟨⟨o,ho,ok.ok _ _ ho,hb⟩,zk⟩ λy d=>?_,aI (Aa _ (.head _)) rfl rfl,ak .here rfl,ak .here rfl,aI (by exact bC h0) rfl rfl,ak .here rfl,aI (by exact bC h0) rfl rfl,(bU (z:=gS z dl sz) (x:=y) (d:=d) (L0:=(y,.inst 640 d (eO (gS z dl sz)))::L0) ((hL.cons _).trans List.perm_middle.symm) ok ho zk2 (Aa _ (.head _)) λs' st g=>?_).le (lE n 5 6 rfl),⟨_,.of AC,kk y d s' st g⟩)
theorem dh {z:Zn} (h:cf z) {dl:Int} (h1:0≤z.links+dl) (h2:z.links+dl <65536) {sz:Int} (h3:0≤sz∧sz <4294967296):cf (gS z dl sz):=⟨h.sort,h.mode,h3,⟨h1,h2⟩,h.parent,h.made,(show (0:Int)≤3∧(3:Int) <4294967296 by decide)⟩
theorem aT.links {s s':OS} {k m l dl:Int} {rows:List bP} {o:Ob} {z:Zn} (h:aT s k rows m l) (ho:s.get k=some o) (hb:o.bonus=bO z) (zk:cf z) (zz:z.sort=1∧z.mode=m∧z.links=l) (zk2:cf (gS z dl z.size)) (g:s'.get k=some { o with bonus:=bO (gS z dl z.size) }):aT s' k rows m (l+dl):=by
 obtain ⟨⟨⟨q,e1,e2⟩,k0,k1⟩,_⟩:=h
 rw [ho] at e1;cases e1
 have ok2:dw { o with bonus:=bO (gS z dl z.size) }:=⟨e2.ok.b0,e2.ok.b1,(show (bO (gS z dl z.size)).length≤32 by rw [ji];decide),e2.ok.full,e2.ok.most,e2.ok.keys,e2.ok.rng⟩
 exact ⟨⟨⟨_,g,ok2,e2.block,e2.enc,e2.rows⟩,k0,k1⟩,gS z dl z.size,⟨⟨_,g,ok2,rfl⟩,zk2⟩,zz.1,zz.2.1,(show z.links+dl=l+dl by rw [zz.2.2])⟩
theorem aT.zn2 {s:OS} {k m l:Int} {rows:List bP} (h:aT s k rows m l):∃ o z,s.get k=some o∧o.bonus=bO z∧cf z∧z.sort=1∧z.mode=m∧z.links=l:=by
 refine an h.zn λz q1' zz=>?_
 obtain ⟨⟨o,a,_,b⟩,zk⟩:=q1'
 exact ⟨o,z,a,b,zk,zz⟩
end
theorem ae8 {sort mode links k:Int} (hs:0≤sort∧sort≤2) (hm:0≤mode∧mode <65536) (hl:0≤links∧links <65536) (hk:0≤k∧k <4294967296):cf ⟨sort,mode,0,links,k,3,3⟩:=
 ⟨hs,hm,(show (0:Int)≤0∧(0:Int) <4294967296 by decide),hl,hk,(show (0:Int)≤3∧(3:Int) <4294967296 by decide),(show (0:Int)≤3∧(3:Int) <4294967296 by decide)⟩
inductive Put (s':OS) (F:Fs) (p:_root_.Fin 4) (k e links:Int):Prop
 | mk (rows':List bP) (h0:rows'.Perm (((bY F (f9 p)).filter λr=>decide (r.1≠dp p))++[(dp p,e)])) (h1:aT s' k rows' (cH p) links)
structure aif (s s':OS) (t:Int) (F:Fs) (p:_root_.Fin 4) (sort mode:Int):Prop where
 no:F.pt p=none
 ex:∃ k,dirOf F p=some k∧fZ s s' (t+1) (λj=>j=t+1∨j=k)∧Put s' F p k ((t+1) * 4+sort) (aY F p)∧∃ o,s'.get (t+1)=some o∧o.block=16∧o.bonus=bO ⟨sort,mode,0,1,k,3,3⟩∧cf ⟨sort,mode,0,1,k,3,3⟩∧∀ j,cont o j=0
theorem ae9 (F:Fs) (ps:List (_root_.Fin 4)):(bY F ps).length≤ps.length:=DP _ _
theorem oA (F:Fs) (p:_root_.Fin 4):∀ ps:List (_root_.Fin 4),(bY F ps).filter (λr=>decide (r.1≠dp p))=bY F (ps.filter λq=>decide (q≠p))
 | []=>rfl
 | q::ps=>by
  have ih:=oA F p ps
  unfold bY at ih ⊢
  rw [AO,AM]
  by_cases h:q=p
  ·rw [if_neg (by rw [decide_eq_false (λz=>z h)];exact AK)]
   cases e:F.pt q with
   | none=>exact ih
   | some n=>
    show List.filter _ ((dp q,enc F q n)::_)=_
    rw [AM,if_neg (by rw [decide_eq_false (λz=>z (congrArg dp h))];exact AK)]
    exact ih
  ·rw [if_pos (decide_eq_true h),AO]
   cases e:F.pt q with
   | none=>exact ih
   | some n=>
    show List.filter _ ((dp q,enc F q n)::_)=(dp q,enc F q n)::_
    rw [AM,if_pos (show decide ((dp q,enc F q n).1≠dp p)=true from decide_eq_true λz=>h (qX z)),ih]
theorem amr:∀ p,((f9 p).filter λq=>decide (q≠p)).length≤2:=by decide+kernel
theorem pC {F:Fs} {p:_root_.Fin 4} {rows:List bP} (h:rows.Perm (bY F (f9 p))):(rows.filter λr=>decide (r.1≠dp p)).length≤2:=by
 rw [(h.filter _).length_eq,oA]
 exact Ai (ae9 _ _) (amr p)
theorem aB.dirNo {s:OS} {t k:Int} {F:Fs} {p:_root_.Fin 4} (r:aB s t F) (h:dirOf F p=some k):2≤k∧k≤t:=by
 show[ec (r.dir2 p h) λrows O da O=>?_,oq da.zn2 λo O ho O=>?_,⟨?_,(r.ok.rng _ _ ho).2⟩]
 unfold dirOf at h
 by_cases q:p=2
 ·rw [if_pos q] at h;have:=(r.fold k h).1;lia
 ·rw [if_neg q] at h;cases h;decide
section
variable {c:Cx} {n:Nat} {L L0:ah}
theorem q6 {s:OS} {t sort mode:Int} {F:Fs} {T:FT} {p:_root_.Fin 4} (hL:L.Perm (aQ s++L0)) (hT:∀ q∈hZ T s.x,q∈L0) (r:aB s t F) (ht:t <900) (hs:0≤sort∧sort≤2) (hmo:0≤mode∧mode <65536) {Q:ad} {X:ac} (kk:∀ s',aif s s' t F p sort mode->Q (.int (t+1)) (aQ s'++L0)) (kx:∀ C,dk.contains C=true->(dirOf F p=none∨F.pt p≠none)->X C L):ae c (n+12) (.ref 851) [.obj T.ft,.str (pS p),.int sort,.int mode] L Q X:=by
 have hm:=ci (c:=c) hL
 have hTT:=jv (c:=c) hL hT
 have h0:=hTT _ (.head _)
 refine ae.norm (gA λa=>@aa _ _ _ _ _ _ _ _ _ _ 12 ?_).fn
 intro GL
 show[aU (.inst (by exact h0) rfl rfl rfl),(js hmo.1 hmo.2 ?_).le (lE n 1 11 rfl),aU (.inst (by exact h0) rfl rfl rfl),ju (by exact hm) (by exact hTT) r (λk hk he=>?_) λC h e=>⟨L,.rfl,kx C h e⟩]
 have kd:=r.dirNo hk
 have t3:=r.t3
 show[ec (r.dir2 p hk) λrows hr da O=>?_,aI (by exact h0) rfl rfl,aI (by exact h0) rfl rfl]
 have zk:=ae8 (links:=1) hs hmo (by decide) (show 0≤k∧k <4294967296 by lia)
 refine (pn (z:=⟨sort,mode,0,1,k,3,3⟩) λy d=>?_).le (lE n 2 11 rfl)
 have hL1:((y,aj.inst 640 d (eO ⟨sort,mode,0,1,k,3,3⟩))::L).Perm (aQ s++((y,aj.inst 640 d (eO ⟨sort,mode,0,1,k,3,3⟩))::L0)):=(hL.cons _).trans List.perm_middle.symm
 show[aI (by exact bC h0) rfl rfl,aU (.inst (by exact bC (hm _ (.head _))) rfl rfl rfl),aI (by exact bC h0) rfl rfl,aI (by exact bC (hm _ (.head _))) rfl rfl,aI (by exact bC (hm _ (.tail _ (.head _)))) rfl rfl,(jj zk (Aa _ (.head _)) ?_).le (lE n 4 11 rfl),(w_add hL1 r.ok (by lia) (by decide) (by decide) (by decide) (by decide) (by rw [ji];decide) λs1 o u=>?_).le (lE n 5 11 rfl)]
 have st1:=u.step r.ok (by lia)
 have g1:s1.get (t+1)=some o:=by rw [u.get r.ok.fresh,if_pos rfl]
 have da1:aT s1 k rows (cH p) (aY F p):=da.get (st1.oth k (by lia))
 have hf:∀ M:ah,(T.ft,aj.inst 973 T.ftd (ftF T s.x))∈(c.R++(M++((y,aj.inst 640 d (eO ⟨sort,mode,0,1,k,3,3⟩))::L0))):=λM=>Aa _ (Aa _ (.tail _ (hT _ (.head _))))
 have ro:eP (dp p,(t+1) * 4+sort):=⟨cA p,qW p,ro4 (Au (by decide) (BH r.t3 1)) (BH r.t9 1) hs.1 (Au hs.2 (by decide))⟩
 refine bS (Ah u.block u.bonus) λob oo=>?_
 have oc:=u.cont
 refine aE st1.up λl1 e1=>?_
 clear u
 subst e1
 show[aI (by exact hf _) rfl rfl,(ff (.refl _) st1.ok da1.zap ro (pC hr) λs2 rows' st2 hp2 z2 hb2=>?_).le (lE n 9 11 rfl)]
 have da2:aT s2 k rows' (cH p) (aY F p):=da1.rows z2 hb2
 refine e23 da2.zn2 λo2 zz g2 bo2 zk2 zz2=>?_
 have gg:s2.get (t+1)=some o:=by rw [st2.oth _ (by lia)];exact g1
 refine aE st2.up λl2 e2=>?_
 subst e2
 have zk3:cf (gS zz 0 zz.size):=dh zk2 (by rw [A9];exact zk2.links.1) (by rw [A9];exact zk2.links.2) zk2.size
 show[aU (.inst (by exact hf _) rfl rfl rfl),(df (T:=T) (dl:=0) (.refl _) (by exact λq hq=>.tail _ (hT q hq)) st2.ok g2 bo2 zk2 zk3 λx d' s3 st3 g3=>?_).le (lE n 7 11 rfl)]
 have da3:=da2.links g2 bo2 zk2 zz2 zk3 g3
 rw [A9] at da3
 refine ⟨aQ s3++L0,⟨[_,_],(AC (l₁:=aQ s3)).cons _⟩,kk s3 ⟨he,k,hk,((st1.trans st2).trans st3).less λj q=>?_,⟨rows',hp2.trans ((hr.filter _).append_right _),da3⟩,o,?_,ob,oo,zk,oc⟩⟩
 ·exact q.elim (λq=>q) λq=>.inr q
 ·rw [st3.oth _ (by lia)];exact gg
end
theorem cL {F F':Fs} (h3:F'.pt 3=F.pt 3) (q:_root_.Fin 4):dirOf F' q=dirOf F q∧aY F' q=aY F q:=by
 unfold dirOf aY cz
 rw [h3];exact ⟨rfl,rfl⟩
theorem wI {F:Fs} {p q:_root_.Fin 4} (h:p=2↔q=2):dirOf F p=dirOf F q∧f9 p=f9 q∧cH p=cH q∧aY F p=aY F q:=by
 unfold dirOf f9 cH aY
 by_cases z:p=2
 ·rw [if_pos z,if_pos z,if_pos z,if_pos z,if_pos (h.mp z),if_pos (h.mp z),if_pos (h.mp z),if_pos (h.mp z)];exact ⟨rfl,rfl,rfl,rfl⟩
 ·have y:¬ q=2:=λw=>z (h.mpr w)
  rw [if_neg z,if_neg z,if_neg z,if_neg z,if_neg y,if_neg y,if_neg y,if_neg y];exact ⟨rfl,rfl,rfl,rfl⟩
theorem wJ:∀ p q:_root_.Fin 4,¬ (p=2↔q=2)->p∉f9 q:=by decide+kernel
theorem ams {s:OS} {t:Int} {F:Fs} (r:aB s t F) {p q:_root_.Fin 4} (h:¬ (p=2↔q=2)) {k k':Int} (h1:dirOf F p=some k) (h2:dirOf F q=some k'):k'≠k:=by
 unfold dirOf at h1 h2
 by_cases z:p=2
 ·have y:¬ q=2:=λw=>h ⟨λO=>w,λO=>z⟩
  rw [if_pos z] at h1
  rw [if_neg y] at h2
  cases h2
  have:=(r.fold k h1).1
  lia
 ·have y:q=2:=DG λw=>h ⟨λu=>(z u).elim,λu=>(w u).elim⟩
  rw [if_neg z] at h1
  rw [if_pos y] at h2
  cases h1
  have:=(r.fold k' h2).1
  lia
theorem oj {F:Fs} {q:_root_.Fin 4} {k:Int} (h:dirOf F q=some k):k=2∨F.pt 3=some k:=by
 unfold dirOf at h
 by_cases z:q=2
 ·rw [if_pos z] at h;exact .inr h
 ·rw [if_neg z] at h;cases h;exact .inl rfl
theorem zu {s s':OS} {t k:Int} {F F':Fs} {p:_root_.Fin 4} (r:aB s t F) (hk:dirOf F p=some k) (h3:F'.pt 3=F.pt 3)
 (oth:∀ q,q≠p->F'.pt q=F.pt q∧∀ m,F.pt q=some m->enc F' q m=enc F q m) (get:∀ j,j≠k->(j=2∨F.pt 3=some j)->s'.get j=s.get j)
 (me:∃ rows:List bP,rows.Perm (bY F' (f9 p))∧aT s' k rows (cH p) (aY F p)) (q:_root_.Fin 4) (k':Int) (h:dirOf F' q=some k'):
 ∃ rows:List bP,rows.Perm (bY F' (f9 q))∧aT s' k' rows (cH q) (aY F' q):=by
 refine bS (cL h3 q) λe1 e2=>?_
 rw [e1] at h
 rw [e2]
 by_cases z:p=2↔q=2
 ·refine e03 (wI (F:=F) z) λc1 c2 c3 c4=>?_
  rw [← c1,hk] at h;cases h
  rw [← c2,← c3,← c4]
  exact me
 ·show[ec (r.dir2 q h) λrows h1 h2 O=>?_,⟨rows,?_,h2.get (get k' (ams r z hk h) (oj h))⟩]
  rw [oh λx hx=>oth x λw=>wJ p q z (w▸hx)]
  exact h1
noncomputable def Fs.put (F:Fs) (p:_root_.Fin 4) (n:Option Int):Fs:=⟨λq=>if q=p then n else F.pt q,F.nd⟩
noncomputable def Fs.set (F:Fs) (n:Int) (f:FN):Fs:=⟨F.pt,λm=>if m=n then f else F.nd m⟩
theorem aF {F:Fs} {p:_root_.Fin 4} {n:Option Int}:(F.put p n).pt p=n:=if_pos rfl
theorem aG {F:Fs} {p q:_root_.Fin 4} {n:Option Int} (h:q≠p):(F.put p n).pt q=F.pt q:=if_neg h
theorem afa {F F':Fs} {q:_root_.Fin 4} {m:Int} (h:q≠3->(F'.nd m).th.sort=(F.nd m).th.sort):enc F' q m=enc F q m:=by
 unfold enc
 by_cases z:q=3
 ·rw [if_pos z,if_pos z]
 ·rw [if_neg z,if_neg z,h z]
theorem eg {F F':Fs} {n:Int} (h:∀ q:_root_.Fin 4,q≠3->(F'.pt q=some n↔F.pt q=some n)):cnt F' n=cnt F n:=by
 unfold cnt
 congr 1
 refine IE λq hq=>?_
 have q3:q≠3:=by rintro rfl;revert hq;decide
 exact decide_eq_decide.mpr (h q q3)
theorem aig {F:Fs} {n:Int} {p:_root_.Fin 4} (p3:p≠3) (h1:F.pt p=some n) (h2:∀ q,q≠p->F.pt q≠some n):cnt F n=1:=by
 unfold cnt
 have e:(([0,1,2]:List (_root_.Fin 4)).filter λq=>decide (F.pt q=some n))=([0,1,2]:List (_root_.Fin 4)).filter λq=>decide (q=p):=by
  refine IE λq O=>?_
  by_cases z:q=p
  ·rw [decide_eq_true z,z,decide_eq_true h1]
  ·rw [decide_eq_false z,decide_eq_false (h2 q z)]
 rw [e]
 revert p3
 clear e h1 h2
 revert p
 decide+kernel
theorem aB.no {s:OS} {t n:Int} {F:Fs} (r:aB s t F) {q:_root_.Fin 4} (h:F.pt q=some n):4≤n∧n≤t:=by
 by_cases z:q=3
 ·obtain ⟨a,_,_,da⟩:=r.fold n (z▸h)
  show(oq da.zn2 λo O ho O=>?_,⟨a,(r.ok.rng _ _ ho).2⟩)
 ·obtain ⟨a,_,⟨o,_,ho,_⟩,_⟩:=r.file q n z h
  exact ⟨a,(r.ok.rng _ _ ho).2⟩
theorem aB.master' {s s':OS} {t:Int} {F:Fs} (r:aB s t F) (e:s'.get 1=s.get 1):∃ rows,bE s' 1 rows∧bB rows (Ab "root")=some 2∧bB rows (Ab "unlinked")=some 3:=
 let ⟨rows,a,b⟩:=r.master;⟨rows,a.get e,b⟩
noncomputable def Fs.add (F:Fs) (p:_root_.Fin 4) (n:Int) (f:FN):Fs:=(F.put p (some n)).set n f
theorem zv {s s':OS} {t k:Int} {F:Fs} {p:_root_.Fin 4} {fn:FN} (r:aB s t F) (p3:p≠3) (hk:dirOf F p=some k) (no:F.pt p=none) (ht:t <900) (st:fZ s s' (t+1) λj=>j=t+1∨j=k)
 (pu:Put s' F p k ((t+1) * 4+fn.th.sort) (aY F p)) (fo:bq s' (t+1) fn 1):aB s' (t+1) (F.add p (t+1) fn):=by
 have t3:=r.t3
 have kd:=r.dirNo hk
 have ptp:(F.add p (t+1) fn).pt p=some (t+1):=aF
 have pto:∀ q,q≠p->(F.add p (t+1) fn).pt q=F.pt q:=λq h=>aG h
 have ndn:(F.add p (t+1) fn).nd (t+1)=fn:=if_pos rfl
 have ndo:∀ m,m≠t+1->(F.add p (t+1) fn).nd m=F.nd m:=λm h=>if_neg h
 have h3:(F.add p (t+1) fn).pt 3=F.pt 3:=pto 3 λz=>p3 z.symm
 have oth:∀ q,q≠p->(F.add p (t+1) fn).pt q=F.pt q∧∀ m,F.pt q=some m->enc (F.add p (t+1) fn) q m=enc F q m:=λq hq=>⟨pto q hq,λm hm=>afa λO=>by rw [ndo m (by have:=r.no hm;lia)]⟩
 refine .of st.ok (by lia) (by lia) (r.master' (st.oth 1 (by lia))) (λq k' O h=>zu r hk h3 oth (λj hj ha=>st.oth j λz=>z.elim (λz=>?_) hj) ?_ q k' h) (λk' h=>?_) (λh=>?_) λq n q3 hq=>?_
 ·rcases ha with ha | ha
  ·lia
  ·have:=r.no ha;lia
 ·obtain ⟨rows',h1,h2⟩:=pu
  refine ⟨rows',mG (wH p) (pA p) (.refl _) ptp ?_ (λq O hq=>oth q hq) h1,h2⟩
  unfold enc
  rw [if_neg p3,ndn]
 ·rw [h3] at h;exact (r.fold k' h).1
 ·rw [h3] at h
  by_cases z:p=2
  ·rw [z] at hk
   have hk:F.pt 3=some k:=hk
   rw [h] at hk;cases hk
  ·rw [pto 2 λw=>z w.symm];exact r.nofo h
 ·rw [h3]
  by_cases z:q=p
  ·rw [z,ptp] at hq;cases hq
   refine ⟨by lia,λw=>?_,?_⟩
   ·have:=(r.no w).2;lia
   ·rw [ndn,aig p3 ptp λx hx w=>by rw [pto x hx] at w;have:=(r.no w).2;lia]
    exact fo
  ·rw [pto q z] at hq
   refine dR (r.file q n q3 hq) λa b d=>?_
   have nn:=r.no hq
   refine ⟨a,b,?_⟩
   rewrite [ndo n (by lia),eg (F:=F) λx O=>?_]
   ·exact d.get (st.oth n λw=>w.elim (by lia) λw=>(oj hk).elim (by lia) λy=>b (w▸y))
   ·by_cases y:x=p
    ·rw [y,ptp,no]
     exact ⟨λw=>by cases w;lia,λw=>by cases w⟩
    ·rw [pto x y]
inductive Out (s:OS) (L0:ah) (res:Option (Int × Fs)) (L':ah):Prop
 | mk (s':OS) (t':Int) (F':Fs) (h0:res=some (t',F')) (h1:L'=aQ s'++L0) (h2:(∃ l,s'={ s with objs:=l,top:=some t' })) (h3:aB s' t' F')
noncomputable def om (F:Fs) (t:Int) (p:_root_.Fin 4) (fn:FN):Option (Int × Fs):=
 match dirOf F p,F.pt p with
 | some _,none=>some (t+1,F.add p (t+1) fn)
 | _,_=>none
theorem pD {F:Fs} {t:Int} {p:_root_.Fin 4} {fn:FN} (h:dirOf F p=none∨F.pt p≠none):om F t p fn=none:=by
 unfold om
 rcases h with h | h
 ·rw [h]
 ·cases e:F.pt p with
  | none=>exact (h e).elim
  | some n=>cases dirOf F p <;> rfl
theorem q7 {F:Fs} {t k:Int} {p:_root_.Fin 4} {fn:FN} (h:dirOf F p=some k) (e:F.pt p=none):om F t p fn=some (t+1,F.add p (t+1) fn):=by
 unfold om;rw [h,e]
theorem aqy:∀ p:_root_.Fin 4,decide (bA (pS p)=[])=false:=by decide+kernel
section
variable {c:Cx} {n:Nat} {L L0:ah}
theorem afc {s:OS} {t mode:Int} {F:Fs} {T:FT} {p:_root_.Fin 4} (p3:p≠3) (hL:L.Perm (aQ s++L0)) (hT:∀ q∈hZ T s.x,q∈L0) (r:aB s t F) (ht:t <900) (hmo:0≤mode∧mode <65536):
 ae c (n+13) (.ref 858) [.obj T.ft,.str (pS p),.int mode] L (λO L'=>Out s L0 (om F t p ⟨.oct [],mode⟩) L') (λC L'=>dk.contains C=true∧L'=L∧om F t p ⟨.oct [],mode⟩=none):=by
 have h0:=jv (c:=c) hL hT _ (.head _)
 refine (iP λa=>@aa _ _ _ _ _ _ _ _ _ _ 12 ?_).fn
 intro GL
 show[aU (.inst (by exact h0) rfl rfl rfl),q6 hL hT r ht (by decide) hmo (λs' nf=>?_) λC h e=>⟨h,rfl,pD e⟩]
 obtain ⟨no,k,hk,st,pu,o,g,ob,oo,zk,oc⟩:=nf
 refine ⟨s',t+1,_,q7 hk no,rfl,st.eq,zv r p3 hk no ht st pu ⟨⟨o,_,g,st.ok.ok _ _ g,ob,oo,zk,rfl,rfl,rfl,rfl,λj O=>?_⟩,BQ _,λq h=>by cases h⟩⟩
 rw [oc];rfl
theorem abc {s:OS} {t:Int} {F:Fs} {T:FT} {p q:_root_.Fin 4} (p3:p≠3) (q3:q≠3) (hL:L.Perm (aQ s++L0)) (hT:∀ q∈hZ T s.x,q∈L0) (r:aB s t F) (ht:t <900):
 ae c (n+13) (.ref 872) [.obj T.ft,.str (pS p),.str (pS q)] L (λO L'=>Out s L0 (om F t p ⟨.lnk q,0⟩) L') (λC L'=>dk.contains C=true∧L'=L∧om F t p ⟨.lnk q,0⟩=none):=by
 have h0:=jv (c:=c) hL hT _ (.head _)
 have hq:=aj1 q
 have bl:(bA (pS q)).length≤4:=by rw [bH];exact hq.2
 refine ae.norm (im λa=>@aa _ _ _ _ _ _ _ _ _ _ 12 ?_).fn
 intro GL
 show[(fw ⟨hq.1,Ai hq.2 (by decide)⟩ ?_).le (lE n 1 12 rfl),fE (aqy q),aU (.inst (by exact h0) rfl rfl rfl),q6 hL hT r ht (by decide) (by decide) (λs1 hh1=>?_) λC h e=>⟨L,.rfl,h,rfl,pD e⟩]
 obtain ⟨no,k,hk,st,pu,o,g,ob,oo,zk,oc⟩:=hh1
 have kd:=r.dirNo hk
 have o1:=st.ok.ok _ _ g
 refine aE st.up λl1 e1=>?_
 subst e1
 have hf:∀ M:ah,(T.ft,aj.inst 973 T.ftd (ftF T s.x))∈(c.R++(M++L0)):=λM=>Aa _ (Aa _ (hT _ (.head _)))
 show[aI (by exact hf _) rfl rfl,aU (.inst (Aa _ (.head _)) rfl rfl rfl),(ed (.refl _) g o1 (by decide) (by lia) λs2 o2 u2 wr=>?_).le (lE n 6 12 rfl)]
 have st2:=u2.step g st.ok wr.ok
 have g2:s2.get (t+1)=some o2:=by rw [u2.get,if_pos rfl]
 have md:=wr.mod
 refine aE st2.up λl2 e2=>?_
 clear u2
 subst e2
 show[aU (.inst (by exact hf _) rfl rfl rfl),cJ (by lia)]
 have zk2:=dh (dl:=0) (sz:=(bA (pS q)).length) zk (show (0:Int)≤1+0 by decide) (show (1:Int)+0 <65536 by decide) (by lia)
 refine (oi (T:=T) (.refl _) (by exact hT) st2.ok g2 (md.bonus.trans oo) zk zk2 λx d s3 st3 g3=>?_).le (lE n 7 12 rfl)
 have st9:fZ s s3 (t+1) λj=>j=t+1∨j=k:=((st.trans st2).trans st3).less λj q=>q.elim (λq=>q.elim id .inl) .inl
 have ok3:=st3.ok.ok _ _ g3
 obtain ⟨rows',r1,r2⟩:=pu
 refine ⟨aQ s3++L0,.tail,s3,t+1,_,q7 hk no,rfl,st9.eq,zv r p3 hk no ht st9 ⟨rows',r1,r2.get (by rw [st3.oth k (by lia),st2.oth k (by lia)])⟩ ⟨⟨_,_,g3,ok3,md.block.trans ob,rfl,zk2,rfl,rfl,rfl,rfl,λj hj=>?_⟩,by show (bA (pS q)).length≤100;lia,λx h=>by cases h;exact q3⟩⟩
 show cont o2 j=(bA (pS q)).getD j.toNat 0
 rw [wr.cont]
 unfold jo
 by_cases z:(0:Int)≤j∧j <0+((bA (pS q)).length:Int)
 ·rw [if_pos z,Int.sub_zero]
 ·rw [if_neg z,oc,Ak,Bw (by lia)];rfl
end
theorem jS (F:Fs) (n:Int):cnt F n=(if F.pt 0=some n then 1 else 0)+((if F.pt 1=some n then 1 else 0)+(if F.pt 2=some n then 1 else 0)):=by
 unfold cnt
 rw [AM,AM,AM,Je]
 by_cases h0:F.pt 0=some n <;> by_cases h1:F.pt 1=some n <;> by_cases h2:F.pt 2=some n <;> simp [h0,h1,h2]
theorem afd {F F':Fs} {n:Int}:∀ q:_root_.Fin 4,q≠3->F.pt q≠some n->F'.pt q=some n->(∀ x,x≠q->F'.pt x=F.pt x)->cnt F' n=cnt F n+1:=by
 refine iA (λO a b d=>?_) (λO a b d=>?_) (λO a b d=>?_) λa O O O=>(a rfl).elim
 ·rw [jS,jS,b,d 1 (by decide),d 2 (by decide),if_pos rfl,if_neg a];lia
 ·rw [jS,jS,b,d 0 (by decide),d 2 (by decide),if_pos rfl,if_neg a];lia
 ·rw [jS,jS,b,d 0 (by decide),d 1 (by decide),if_pos rfl,if_neg a];lia
theorem mH {F F':Fs} {n:Int} {q:_root_.Fin 4} (q3:q≠3) (h1:F.pt q≠some n) (h2:F'.pt q=some n) (ho:∀ x,x≠q->F'.pt x=F.pt x):cnt F' n=cnt F n+1:=afd q q3 h1 h2 ho
theorem uM {s s':OS} {t t' k:Int} {F F':Fs} {p:_root_.Fin 4} (r:aB s t F) (hk:dirOf F p=some k) (p3:p≠3) (ok:cK s' t') (h1:t≤t') (h2:t'≤900) (h3:F'.pt 3=F.pt 3)
 (oth:∀ q,q≠p->F'.pt q=F.pt q∧∀ m,F.pt q=some m->enc F' q m=enc F q m) (get:∀ j,j≠k->(j=1∨j=2∨F.pt 3=some j)->s'.get j=s.get j)
 (me:∃ rows:List bP,rows.Perm (bY F' (f9 p))∧aT s' k rows (cH p) (aY F p))
 (file:∀ p n,p≠3->F'.pt p=some n->4≤n∧F.pt 3≠some n∧bq s' n (F'.nd n) (cnt F' n)):aB s' t' F':=by
 have t3:=r.t3
 have kd:=r.dirNo hk
 refine .of ok (by lia) h2 (r.master' (get 1 (by lia) (.inl rfl))) (λq k' O h=>zu r hk h3 oth (λj hj ha=>get j hj (.inr ha)) me q k' h) (λk' h=>?_) (λh=>?_) λq n q3 hq=>?_
 ·rw [h3] at h;exact (r.fold k' h).1
 ·rw [h3] at h
  by_cases z:p=2
  ·rw [z] at hk
   have hk:F.pt 3=some k:=hk
   rw [h] at hk;cases hk
  ·rw [(oth 2 λw=>z w.symm).1];exact r.nofo h
 ·rw [h3];exact file q n q3 hq
theorem q8 {F:Fs} {n:Int} {f:FN}:(F.set n f).nd n=f:=if_pos rfl
theorem q9 {F:Fs} {n m:Int} {f:FN} (h:m≠n):(F.set n f).nd m=F.nd m:=if_neg h
theorem uN {s s':OS} {t n:Int} {F:Fs} {p:_root_.Fin 4} {fn:FN} (r:aB s t F) (p3:p≠3) (hp:F.pt p=some n) (st:fZ s s' t (·=n)) (fo:bq s' n fn (cnt F n)) (hs:fn.th.sort=(F.nd n).th.sort):aB s' t (F.set n fn):=by
 refine dR (r.file p n p3 hp) λn4 n3 O=>?_
 have oth:∀ q,(F.set n fn).pt q=F.pt q∧∀ m,F.pt q=some m->enc (F.set n fn) q m=enc F q m:=λq=>⟨rfl,λm O=>afa λO=>by
  by_cases z:m=n
  ·rw [z,q8,hs]
  ·rw [q9 z]⟩
 have get:∀ j,(j=1∨j=2∨F.pt 3=some j)->s'.get j=s.get j:=λj h=>st.oth j λz=>by
  rcases h with h | h | h
  ·lia
  ·lia
  ·exact n3 (z▸h)
 show[ec (r.dir2 0 (k:=2) rfl) λrows h1 h2 O=>?_,uM (p:=0) r rfl (by decide) st.ok (BG _) r.t9 rfl (λq O=>oth q) (λj O h=>get j h) ⟨rows,?_,h2.get (get 2 (.inr (.inl rfl)))⟩ λq m q3 hq=>?_]
 ·rw [oh λq O=>oth q];exact h1
 ·have hq:F.pt q=some m:=hq
  show[dR (r.file q m q3 hq) λa b d=>?_,⟨a,b,?_⟩]
  rw [eg (F:=F) (F':=F.set n fn) λO O=>Jg]
  by_cases z:m=n
  ·rw [z,q8];exact fo
  ·rw [q9 z];exact d.get (st.oth m z)
theorem bq.zn2 {s:OS} {k l:Int} {fn:FN} (h:bq s k fn l):∃ o z,s.get k=some o∧dw o∧o.block=16∧o.bonus=bO z∧cf z∧z.links=l∧z.mode=fn.mode∧z.sort=fn.th.sort∧z.size=fn.th.bs.length∧∀ j:Int,0≤j->cont o j=fn.th.bs.getD j.toNat 0:=h.ob
theorem bq.up {s s':OS} {k l dl:Int} {fn:FN} {o:Ob} {z:Zn} (h:bq s k fn l) (ho:s.get k=some o) (hb:o.bonus=bO z) (zk:cf z) (zz:z.links=l∧z.mode=fn.mode∧z.sort=fn.th.sort∧z.size=fn.th.bs.length) (zk2:cf (gS z dl z.size)) (g:s'.get k=some { o with bonus:=bO (gS z dl z.size) }):bq s' k fn (l+dl):=by
 obtain ⟨⟨q,y,e1,e2,e3,e4,e5,e6⟩,d,f⟩:=h
 rw [ho] at e1;cases e1
 have ok2:dw { o with bonus:=bO (gS z dl z.size) }:=⟨e2.b0,e2.b1,(show (bO (gS z dl z.size)).length≤32 by rw [ji];decide),e2.full,e2.most,e2.keys,e2.rng⟩
 exact ⟨⟨_,_,g,ok2,e3,rfl,zk2,(show z.links+dl=l+dl by rw [zz.1]),zz.2.1,zz.2.2.1,zz.2.2.2,e6.2.2.2.2⟩,d,f⟩
theorem afe (F:Fs) (n:Int):cnt F n≤3:=BZ _ _
noncomputable def ga (F:Fs) (t:Int) (p q:_root_.Fin 4):Option (Int × Fs):=
 match F.pt p,dirOf F q,F.pt q with
 | some n,some _,none=>some (t,F.put q (some n))
 | _,_,_=>none
theorem to {F:Fs} {t:Int} {p q:_root_.Fin 4} (h:F.pt p=none):ga F t p q=none:=by unfold ga;rw [h]
theorem on {F:Fs} {t:Int} {p q:_root_.Fin 4} (h:dirOf F q=none∨F.pt q≠none):ga F t p q=none:=by
 unfold ga
 rcases h with h | h
 ·rw [h];cases F.pt p <;> rfl
 ·cases e:F.pt q with
  | none=>exact (h e).elim
  | some n=>cases F.pt p <;> cases dirOf F q <;> rfl
theorem abd {F:Fs} {t n k:Int} {p q:_root_.Fin 4} (h1:F.pt p=some n) (h2:dirOf F q=some k) (h3:F.pt q=none):ga F t p q=some (t,F.put q (some n)):=by unfold ga;rw [h1,h2,h3]
theorem aff {s s':OS} {t n k:Int} {F:Fs} {p q:_root_.Fin 4} (r:aB s t F) (p3:p≠3) (q3:q≠3) (hp:F.pt p=some n) (hk:dirOf F q=some k) (no:F.pt q=none) (st:fZ s s' t λj=>j=n∨j=k)
 (pu:Put s' F q k (n * 4+(F.nd n).th.sort) (aY F q)) (fo:bq s' n (F.nd n) (cnt F n+1)):aB s' t (F.put q (some n)):=by
 refine dR (r.file p n p3 hp) λn4 n3 O=>?_
 have oth:∀ x,x≠q->(F.put q (some n)).pt x=F.pt x∧∀ m,F.pt x=some m->enc (F.put q (some n)) x m=enc F x m:=λx hx=>⟨aG hx,λm O=>rfl⟩
 obtain ⟨rows',h1,h2⟩:=pu
 refine uM (p:=q) r hk q3 st.ok (BG _) r.t9 (aG λz=>q3 z.symm) oth (λj hj h=>st.oth j λz=>z.elim (λz=>?_) hj) ⟨rows',mG (wH q) (pA q) (.refl _) aF ?_ (λx O hx=>oth x hx) h1,h2⟩ λx m x3 hx=>?_
 ·rcases h with h | h | h
  ·lia
  ·lia
  ·exact n3 (z▸h)
 ·unfold enc;rw [if_neg q3];rfl
 ·by_cases z:x=q
  ·rw [z,aF] at hx;cases hx
   refine ⟨n4,n3,?_⟩
   rw [mH q3 (by rw [no];exact λw=>by cases w) aF λy hy=>aG hy]
   exact fo
  ·rw [aG z] at hx
   show[dR (r.file x m x3 hx) λa b d=>?_,⟨a,b,?_⟩]
   by_cases y:m=n
   ·rw [y,mH q3 (by rw [no];exact λw=>by cases w) aF λy hy=>aG hy]
    exact fo
   ·rewrite [eg (F:=F) λw O=>?_]
    ·show(d.get (st.oth m λw=>w.elim y λw=>?_),(oj hk).elim (by lia) λv=>b (w▸v))
    ·by_cases v:w=q
     ·rw [v,aF,no]
      exact ⟨λu=>by cases u;exact (y rfl).elim,λu=>by cases u⟩
     ·rw [aG v]
section
variable {c:Cx} {n:Nat} {L L0:ah}
theorem jw {s:OS} {t n k:Int} {F:Fs} {p q:_root_.Fin 4} (r:aB s t F) (p3:p≠3) (hp:F.pt p=some n) (hk:dirOf F q=some k):n≠k:=λz=>by
 show(dR (r.file p n p3 hp) λa b O=>?_,(oj hk).elim (by lia) λv=>b (z▸v))
theorem gU (t:Th):¬ t.sort=1:=λz=>by have:=uL t;lia
theorem amt {s:OS} {t:Int} {F:Fs} {T:FT} {p q:_root_.Fin 4} (p3:p≠3) (q3:q≠3) (hL:L.Perm (aQ s++L0)) (hT:∀ q∈hZ T s.x,q∈L0) (r:aB s t F) (ht:t <900):
 ae c (n+12) (.ref 879) [.obj T.ft,.str (pS p),.str (pS q)] L (λO L'=>Out s L0 (ga F t p q) L') (λC L'=>dk.contains C=true∧L'=L∧ga F t p q=none):=by
 have hm:=ci (c:=c) hL
 have hTT:=jv (c:=c) hL hT
 have h0:=hTT _ (.head _)
 have h1:=hTT _ (.tail _ (.head _))
 refine ae.norm (kS λa=>@aa _ _ _ _ _ _ _ _ _ _ 12 ?_).fn
 intro GL
 show[aI (by exact h0) rfl rfl,aU (.inst (by exact h1) rfl rfl rfl),(mE (by exact hm) (by exact h1) r (λm hp=>?_) λC h e=>⟨L,.rfl,h,rfl,to e⟩).le (lE n 10 11 rfl),dR (r.file p m p3 hp) λm4 m3 fo=>?_]
 have mt:=(r.no hp).2
 show[yT fo.zn2 λo z ho oo ob hb zk z1 z2 z3 z4 z5=>?_,aI (by exact h0) rfl rfl,(aK (by exact hm) ⟨⟨o,ho,oo,hb⟩,zk⟩ λy d=>?_).le (lE n 6 11 rfl),aI (Aa _ (.head _)) rfl rfl,cQ (by rw [z3];exact gU _),aU (.inst (by exact bC h0) rfl rfl rfl),ju (by exact λx hx=>bC (hm x hx)) (by exact λx hx=>bC (hTT x hx)) r (λk hk no=>?_) λC h e=>⟨L,.tail,h,rfl,on e⟩]
 have mk:=jw r p3 hp hk
 have kd:=r.dirNo hk
 refine ec (r.dir2 q hk) λrows hr da O=>?_
 have hL1:((y,aj.inst 640 d (eO z))::L).Perm (aQ s++((y,aj.inst 640 d (eO z))::L0)):=(hL.cons _).trans List.perm_middle.symm
 have ro:eP (dp q,m * 4+z.sort):=⟨cA q,qW q,ro4 (Au (by decide) m4) (Au mt (Au r.t9 (by decide))) zk.sort.1 (Au zk.sort.2 (by decide))⟩
 show[aI (by exact bC h0) rfl rfl,aI (Aa _ (.head _)) rfl rfl,(ff hL1 r.ok da.zap ro (pC hr) λs1 rows' st1 hp1 zz1 hb1=>?_).le (lE n 9 11 rfl)]
 have da1:aT s1 k rows' (cH q) (aY F q):=da.rows zz1 hb1
 have fo1:bq s1 m (F.nd m) (cnt F m):=fo.get (st1.oth m mk)
 have ho1:s1.get m=some o:=(st1.oth m mk).trans ho
 have hf:∀ M:ah,(T.ft,aj.inst 973 T.ftd (ftF T s.x))∈(c.R++(M++((y,aj.inst 640 d (eO z))::L0))):=λM=>Aa _ (Aa _ (.tail _ (hT _ (.head _))))
 refine aE st1.up λl1 e1=>?_
 subst e1
 have cl:=afe F m
 have zk1:cf (gS z 1 z.size):=dh zk (by lia) (by lia) zk.size
 show[aU (.inst (by exact hf _) rfl rfl rfl),(df (T:=T) (dl:=1) (.refl _) (by exact λq hq=>.tail _ (hT q hq)) st1.ok ho1 hb zk zk1 λx2 d2 s2 st2 g2=>?_).le (lE n 7 11 rfl)]
 have fo2:=fo1.up ho1 hb zk ⟨z1,z2,z3,z4⟩ zk1 g2
 have da2:=da1.get (st2.oth k λw=>mk w.symm)
 refine e23 da2.zn2 λo2 zz gk bk zk2 zz2=>?_
 have zk3:cf (gS zz 0 zz.size):=dh zk2 (by rw [A9];exact zk2.links.1) (by rw [A9];exact zk2.links.2) zk2.size
 refine aE st2.up λl2 e2=>?_
 subst e2
 show[aU (.inst (by exact bC (hf _)) rfl rfl rfl),(df (T:=T) (dl:=0) (L0:=(x2,.inst 640 d2 (eO (gS z 1 z.size)))::(y,.inst 640 d (eO z))::L0) List.perm_middle.symm (by exact λq hq=>.tail _ (.tail _ (hT q hq))) st2.ok gk bk zk2 zk3 λx3 d3 s3 st3 g3=>?_).le (lE n 7 11 rfl)]
 have da3:=da2.links gk bk zk2 zz2 zk3 g3
 rw [A9] at da3
 have fo3:=fo2.get (st3.oth m mk)
 have st9:fZ s s3 t λj=>j=m∨j=k:=((st1.trans st2).trans st3).less λj q=>q.elim (λq=>q.elim .inr .inl) .inr
 refine ⟨aQ s3++L0,⟨[_,_,_],((AC (l₁:=aQ s3)).trans ((AC (l₁:=aQ s3)).cons _)).cons _⟩,s3,t,_,abd hp hk no,rfl,st9.eq,aff r p3 q3 hp hk no st9 ⟨rows',?_,da3⟩ fo3⟩
 rw [← z3]
 exact hp1.trans ((hr.filter _).append_right _)
end
noncomputable def dK (b:List UInt8) (k:Nat):List UInt8:=b++Bt (k - b.length) 0
noncomputable def ovw (b:List UInt8) (i:Nat) (oc:List UInt8):List UInt8:=(dK b i).take i++oc++(dK b i).drop (i+oc.length)
noncomputable def trn (b:List UInt8) (k:Nat):List UInt8:=(dK b k).take k
theorem jT (b:List UInt8) (k:Nat):(dK b k).length=max b.length k:=by unfold dK;rw [As,BY,IA,H6,Nat.max_comm]
theorem re (b:List UInt8) (k j:Nat):(dK b k).getD j 0=b.getD j 0:=by
 unfold dK
 rw [Ak,Cm,Ak]
 by_cases q:j <b.length
 ·rw [if_pos q]
 ·rw [if_neg q,Bw (Nat.not_lt.mp q)]
  have:=ae1 (k - b.length) (j - b.length)
  rwa [Ak] at this
theorem uO (b:List UInt8) (i:Nat) (oc:List UInt8):(ovw b i oc).length=max b.length (i+oc.length):=by
 unfold ovw
 rw [As,As,Cg,B8,jT,EN (DB ..),IA,H6,Nat.max_assoc,IF (BV ..)]
theorem afh (b:List UInt8) (i:Nat) (oc:List UInt8) (j:Nat):(ovw b i oc).getD j 0=if i≤j∧j <i+oc.length then oc.getD (j - i) 0 else b.getD j 0:=by
 have gl:=jT b i
 have gd:=re b i j
 unfold ovw
 generalize dK b i=g at gl gd
 rw [Aq,Ak,Cm,Cg,EN (by rw [gl];exact DB ..),Cm]
 by_cases q:j <i
 ·rw [if_pos q,if_neg λz=>Nat.not_lt.mpr z.1 q,CU q,← Ak,gd]
 ·have c:=Gu (c:=oc.length) (Nat.not_lt.mp q)
  rw [if_neg q]
  by_cases r:j - i <oc.length
  ·rw [if_pos r,if_pos ⟨Nat.not_lt.mp q,c.mp r⟩,← Ak]
  ·rw [if_neg r,if_neg λz=>r (c.mpr z.2),Dc,IS,Ed (Nat.not_lt.mp λz=>r (c.mpr z)),← Ak,gd]
theorem uP (b:List UInt8) (k:Nat):(trn b k).length=k:=by unfold trn;rw [Cg,jT,EN (DB ..)]
theorem afi (b:List UInt8) (k j:Nat):(trn b k).getD j 0=if j <k then b.getD j 0 else 0:=by
 unfold trn
 by_cases q:j <k
 ·rw [if_pos q,Ak,CU q,← Ak,re]
 ·rw [if_neg q,Ak,Bw (Ai (CX ..) (Nat.not_lt.mp q))];rfl
theorem afj {f:Int->UInt8} {b oc:List UInt8} {i j:Int} (i0:0≤i) (j0:0≤j) (h:f j=b.getD j.toNat 0):jo f i oc j=(ovw b i.toNat oc).getD j.toNat 0:=by
 refine aE (exN i0) λi e=>?_
 subst e
 refine aE (exN j0) λj e=>?_
 subst e
 rw [AX,AX,afh]
 unfold jo
 by_cases w:i≤j∧j <i+oc.length
 ·rw [if_pos w,if_pos ⟨Int.ofNat_le.mpr w.1,Int.ofNat_lt.mpr w.2⟩,FE]
 ·rw [if_neg w,if_neg λz=>w ⟨Int.ofNat_le.mp z.1,Int.ofNat_lt.mp z.2⟩]
  exact h
noncomputable def gW (i:Nat) (oc:List UInt8) (f:FN):FN:=match f.th with
 | .oct b=>⟨.oct (ovw b i oc),f.mode⟩
 | .lnk _=>f
noncomputable def gT (k:Nat) (f:FN):FN:=match f.th with
 | .oct b=>⟨.oct (trn b k),f.mode⟩
 | .lnk _=>f
noncomputable def gM (mode:Int) (f:FN):FN:=⟨f.th,mode⟩
noncomputable def km (F:Fs) (t:Int) (p:_root_.Fin 4) (g:FN->FN):Option (Int × Fs):=match cv F 9 p with
 | none=>none
 | some n=>some (t,F.set n (g (F.nd n)))
theorem pE {F:Fs} {t:Int} {p:_root_.Fin 4} {g:FN->FN} (h:cv F 9 p=none):km F t p g=none:=by unfold km;rw [h]
theorem mI {F:Fs} {t n:Int} {p:_root_.Fin 4} {g:FN->FN} (h:cv F 9 p=some n):km F t p g=some (t,F.set n (g (F.nd n))):=by unfold km;rw [h]
section
variable {c:Cx} {n:Nat} {L L0:ah}
theorem aih {s:OS} {t i:Int} {F:Fs} {T:FT} {p:_root_.Fin 4} {oc:List UInt8} (p3:p≠3) (hL:L.Perm (aQ s++L0)) (hT:∀ q∈hZ T s.x,q∈L0) (r:aB s t F) (i0:0≤i) (i1:i+oc.length≤100) (o0:0 <oc.length):
 ae c (n+12) (.ref 893) [.obj T.ft,.str (pS p),.int i,.bytes oc] L (λO L'=>Out s L0 (km F t p (gW i.toNat oc)) L') (λC L'=>dk.contains C=true∧L'=L∧km F t p (gW i.toNat oc)=none):=by
 have hm:=ci (c:=c) hL
 have hTT:=jv (c:=c) hL hT
 have h0:=hTT _ (.head _)
 have ol:oc.length≤1000000:=Ai (Ai (Bz ..) (toN i0 i1)) (by decide)
 refine ae.norm (jY λa=>@aa _ _ _ _ _ _ _ _ _ _ 12 ?_).fn
 intro GL
 show[aU (.inst (by exact h0) rfl rfl rfl),tn p3 (by exact hm) (by exact hTT) r (λm hg=>?_) λC h e=>⟨L,.rfl,h,rfl,pE e⟩,fg (ef r 9 p p3 hg) λq b q3 hq hb=>?_,dR (r.file q m q3 hq) λm4 m3 fo=>?_]
 have fl:=fo.len
 refine yT fo.zn2 λo z ho oo ob hbo zk z1 z2 z3 z4 z5=>?_
 rw [hb] at z3 z4 z5 fl
 have z4:z.size=b.length:=z4
 have fl:b.length≤100:=fl
 show[cQ (Int.not_lt.mpr i0),cJ ol,cQ (Int.not_lt.mpr (Au i1 (by decide))),cJ ol,d0 (Int.ofNat_lt.mpr o0),aI (by exact h0) rfl rfl,aU (.inst (by exact hm _ (.head _)) rfl rfl rfl),(ed hL ho oo i0 (Az i1 (by decide)) λs1 o1 u1 wr=>?_).le (lE n 6 11 rfl)]
 have st1:=u1.step ho r.ok wr.ok
 have g1:s1.get m=some o1:=by rw [u1.get,if_pos rfl]
 have md:=wr.mod
 have b1:=md.bonus.trans hbo
 refine aE st1.up λl1 e1=>?_
 clear u1
 subst e1
 have hf:∀ M:ah,(T.ft,aj.inst 973 T.ftd (ftF T s.x))∈(c.R++(M++L0)):=λM=>Aa _ (Aa _ (hT _ (.head _)))
 show[aU (.inst (by exact hf _) rfl rfl rfl),aI (by exact hf _) rfl rfl,(aK (ci (.refl _)) ⟨⟨o1,g1,wr.ok,b1⟩,zk⟩ λy d=>?_).le (lE n 6 11 rfl),aI (Aa _ (.head _)) rfl rfl,cJ ol,aaf]
 have zk2:cf (gS z 0 (max z.size (i+oc.length))):=dh zk (by rw [A9];exact zk.links.1) (by rw [A9];exact zk.links.2) (by rw [z4,mxN i0];exact ⟨Av _,Az (Int.ofNat_le.mpr (Nat.max_le.mpr ⟨fl,toN i0 i1⟩)) (by decide)⟩)
 refine (oi (T:=T) (L0:=(y,.inst 640 d (eO z))::L0) List.perm_middle.symm (by exact λq hq=>.tail _ (hT q hq)) st1.ok g1 b1 zk zk2 λx d2 s3 st3 g3=>?_).le (lE n 7 11 rfl)
 have st9:fZ s s3 t (·=m):=(st1.trans st3).less λj q=>q.elim id id
 refine ⟨aQ s3++L0,⟨[_,_],(AC (l₁:=aQ s3)).cons _⟩,s3,t,_,mI hg,rfl,st9.eq,uN r q3 hq st9 ?_ (by unfold gW;rw [hb];rfl)⟩
 unfold gW
 rw [hb]
 refine ⟨⟨_,_,g3,st3.ok.ok _ _ g3,md.block.trans ob,rfl,zk2,(show z.links+0=cnt F m by rw [z1,A9]),z2,z3,?_,λj hj=>?_⟩,?_,λq h=>by cases h⟩
 ·show max z.size (i+oc.length)=((ovw b i.toNat oc).length:Int)
  rw [uO,z4];exact mxN i0
 ·show cont o1 j=(ovw b i.toNat oc).getD j.toNat 0
  rw [wr.cont];exact afj i0 hj (z5 j hj)
 ·show (ovw b i.toNat oc).length≤100
  rw [uO];exact Nat.max_le.mpr ⟨fl,toN i0 i1⟩
theorem yF {s:OS} {t mode:Int} {F:Fs} {T:FT} {p:_root_.Fin 4} (p3:p≠3) (hL:L.Perm (aQ s++L0)) (hT:∀ q∈hZ T s.x,q∈L0) (r:aB s t F) (hmo:0≤mode∧mode <65536):
 ae c (n+12) (.ref 907) [.obj T.ft,.str (pS p),.int mode] L (λO L'=>Out s L0 (km F t p (gM mode)) L') (λC L'=>dk.contains C=true∧L'=L∧km F t p (gM mode)=none):=by
 have hm:=ci (c:=c) hL
 have hTT:=jv (c:=c) hL hT
 have h0:=hTT _ (.head _)
 have h1:=hTT _ (.tail _ (.head _))
 refine ae.norm (gD λa=>@aa _ _ _ _ _ _ _ _ _ _ 12 ?_).fn
 intro GL
 show[aU (.inst (by exact h0) rfl rfl rfl),(js hmo.1 hmo.2 ?_).le (lE n 1 11 rfl),aI (by exact h0) rfl rfl,aU (.inst (by exact h1) rfl rfl rfl),(w_find (by exact hm) (by exact h1) r (λm hg=>?_) λC h e=>⟨L,.rfl,h,rfl,pE e⟩).le (lE n 10 11 rfl),fg (ef r 9 p p3 hg) λq b q3 hq hb=>?_,dR (r.file q m q3 hq) λm4 m3 fo=>?_,yT fo.zn2 λo z ho oo ob hbo zk z1 z2 z3 z4 z5=>?_,aI (by exact h0) rfl rfl,(aK (by exact hm) ⟨⟨o,ho,oo,hbo⟩,zk⟩ λy d=>?_).le (lE n 6 11 rfl),xk (Ah rfl ?_),aI (by exact bC h0) rfl rfl,ak .here rfl,ak .here rfl,aI (by exact bC h0) rfl rfl]
 have zk2:cf { z with mode:=mode,changed:=3 }:=⟨zk.sort,hmo,zk.size,zk.links,zk.parent,zk.made,(show (0:Int)≤3∧(3:Int) <4294967296 by decide)⟩
 show((bU (z:={ z with mode:=mode,changed:=3 }) (x:=y) (d:=d) (L0:=(y,.inst 640 d (eO { z with mode:=mode,changed:=3 }))::L0) ((hL.cons _).trans List.perm_middle.symm) r.ok ho zk2 (Aa _ (.head _)) λs3 st3 g3=>?_).le (lE n 5 11 rfl),⟨aQ s3++L0,⟨[_],AC⟩,s3,t,_,mI hg,rfl,st3.eq,uN r q3 hq st3 ⟨⟨_,_,g3,st3.ok.ok _ _ g3,ob,rfl,zk2,z1,rfl,z3,z4,z5⟩,fo.len,fo.lnk⟩ rfl⟩)
end
section
variable {c:Cx} {n:Nat} {L L0:ah}
inductive aqz (s:OS) (t i:Int) (F:Fs) (T:FT) (L0:ah) (p:_root_.Fin 4) (m1:Loc) (L1:ah):Prop
 | mk (m:Int) (h0:m1=[(Ab "number",V.int m),(Ab "self",.obj T.ft),(Ab "path",.str (pS p)),(Ab "size",.int i)]) (h1:cv F 9 p=some m) (o:Ob) (h2:s.get m=some o) (s1:OS) (o1:Ob) (x d:Addr) (z:List (Str × V)) (h3:L1.Perm (aQ s1++((x,.inst 640 d z)::L0))) (h4:fZ s s1 t (·=m)) (h5:s1.get m=some o1) (h6:o1.block=o.block) (h7:o1.bonus=o.bonus) (h8:∀ j:Int,0≤j->cont o1 j=if j <i then cont o j else 0)
theorem yG {s:OS} {t i:Int} {F:Fs} {T:FT} {p:_root_.Fin 4} (p3:p≠3) (hL:L.Perm (aQ s++L0)) (hT:∀ q∈hZ T s.x,q∈L0) (r:aB s t F) (i0:0≤i) (i1:i≤100):
 ae c (n+12) (.ref 900) [.obj T.ft,.str (pS p),.int i] L (λO L'=>Out s L0 (km F t p (gT i.toNat)) L') (λC L'=>dk.contains C=true∧L'=L∧km F t p (gT i.toNat)=none):=by
 have hm:=ci (c:=c) hL
 have hTT:=jv (c:=c) hL hT
 have h0:=hTT _ (.head _)
 refine ae.norm (gC λa=>nZ 12 3 (aqz s t i F T L0 p) ?_ λm1 L1 J=>@aa _ _ _ _ _ _ _ _ _ _ 12 ?_).fn
 rotate_left
 ·intro GL
  obtain ⟨m,rfl,hg,o,ho,s1,o1,x,d,zf,j1,st1,g1,j2,j3,j4⟩:=J
  show[fg (ef r 9 p p3 hg) λq b q3 hq hb=>?_,dR (r.file q m q3 hq) λm4 m3 fo=>?_,yT fo.zn2 λo' z ho' oo ob hbo zk z1 z2 z3 z4 z5=>?_]
  rw [ho] at ho';cases ho'
  rw [hb] at z3 z5
  have zk2:cf (gS z 0 i):=dh zk (by rw [A9];exact zk.links.1) (by rw [A9];exact zk.links.2) ⟨i0,Az i1 (by decide)⟩
  refine aE st1.up λl1 e1=>?_
  subst e1
  show[aU (.inst (Aa _ (j1.mem_iff.mpr (Aa _ (.tail _ (hT _ (.head _)))))) rfl rfl rfl),(oi (T:=T) j1 (by exact λq hq=>.tail _ (hT q hq)) st1.ok g1 (j3.trans hbo) zk zk2 λx2 d2 s3 st3 g3=>?_).le (lE n 7 11 rfl)]
  have st9:fZ s s3 t (·=m):=(st1.trans st3).less λj q=>q.elim id id
  refine ⟨aQ s3++L0,⟨[_,_],(AC (l₁:=aQ s3)).cons _⟩,s3,t,_,mI hg,rfl,st9.eq,uN r q3 hq st9 ?_ (by unfold gT;rw [hb];rfl)⟩
  unfold gT
  rw [hb]
  refine ⟨⟨_,_,g3,st3.ok.ok _ _ g3,j2.trans ob,rfl,zk2,(show z.links+0=cnt F m by rw [z1,A9]),z2,z3,?_,λj hj=>?_⟩,?_,λq h=>by cases h⟩
  ·show i=((trn b i.toNat).length:Int)
   rw [uP,ES i0]
  ·show cont o1 j=(trn b i.toNat).getD j.toNat 0
   rw [j4 j hj,afi]
   by_cases w:j <i
   ·rw [if_pos w,if_pos (ary hj w)];exact z5 j hj
   ·rw [if_neg w,if_neg (Nat.not_lt.mpr (Int.toNat_le_toNat (Int.not_lt.mp w)))]
  ·show (trn b i.toNat).length≤100
   rw [uP];exact Int.toNat_le.mpr i1
 intro GL
 show[aU (.inst (by exact h0) rfl rfl rfl),tn p3 (by exact hm) (by exact hTT) r (λm hg=>?_) λC h e=>⟨L,.rfl,h,rfl,pE e⟩,fg (ef r 9 p p3 hg) λq b q3 hq hb=>?_,dR (r.file q m q3 hq) λm4 m3 fo=>?_,yT fo.zn2 λo z ho oo ob hbo zk z1 z2 z3 z4 z5=>?_]
 rw [hb] at z4 z5
 have z4:z.size=b.length:=z4
 show[d0 i0,fE (b:=!decide (i≤4294967295)) (by rw [decide_eq_true (show i≤4294967295 from Au i1 (by decide))];rfl),aI (by exact h0) rfl rfl,(aK (by exact hm) ⟨⟨o,ho,oo,hbo⟩,zk⟩ λy d=>?_).le (lE n 6 11 rfl),aI (Aa _ (.head _)) rfl rfl]
 have hL1:((y,aj.inst 640 d (eO z))::L).Perm (aQ s++((y,aj.inst 640 d (eO z))::L0)):=(hL.cons _).trans List.perm_middle.symm
 refine xj (λw=>?_) λw=>?_
 ·show(aI (by exact bC h0) rfl rfl,aU (.inst (by exact bC (hm _ (.head _))) rfl rfl rfl),(aqr hL1 ho oo i0 (Az i1 (by decide)) λs1 o1 u1 md=>?_).le (lE n 2 11 rfl),⟨m,rfl,hg,o,ho,s1,o1,y,d,_,.refl _,u1.step ho r.ok md.ok,by rw [u1.get,if_pos rfl],md.block,md.bonus,λj hj=>md.cont j⟩)
 ·have w:=of_decide_eq_false w
  refine ⟨m,rfl,hg,o,ho,s,o,y,d,_,hL1,⟨⟨s.objs,by rw [← r.ok.top]⟩,r.ok,λO O=>rfl⟩,ho,rfl,rfl,λj hj=>?_⟩
  by_cases v:j <i
  ·rw [if_pos v]
  ·rw [if_neg v,z5 j hj]
   show b.getD j.toNat 0=0
   rw [Ak,Bw (by rw [z4] at w;exact Int.ofNat_le.mp (Au (Au (Int.not_lt.mp w) (Int.not_lt.mp v)) (CO (ES hj).symm)))];rfl
end
theorem tt {s:OS} {t k:Int} (ok:cK s t):fZ s { s with objs:=jm s.objs k } t (·=k)∧OS.get { s with objs:=jm s.objs k } k=none:=by
 have g:∀ j,OS.get { s with objs:=jm s.objs k } j=if j=k then none else s.get j:=λj=>jM j s.objs
 refine ⟨⟨⟨_,by rw [← ok.top]⟩,⟨ok.top,ok.t0,ok.t1,?_,λj o h=>?_,λj o h=>?_⟩,λj h=>by rw [g,if_neg h]⟩,by rw [g,if_pos rfl]⟩
 ·have:=ok.few
  have h:(jm s.objs k).length≤s.objs.length:=BZ _ _
  show ((jm s.objs k).length:Int)≤t
  lia
 ·rw [g] at h
  by_cases z:j=k
  ·rw [if_pos z] at h;cases h
  ·rw [if_neg z] at h;exact ok.rng j o h
 ·rw [g] at h
  by_cases z:j=k
  ·rw [if_pos z] at h;cases h
  ·rw [if_neg z] at h;exact ok.ok j o h
section
variable {c:Cx} {n:Nat} {L L0:ah}
theorem wK {s:OS} {t m l:Int} {fn:FN} {T:FT} (hL:L.Perm (aQ s++L0)) (hT:∀ q∈hZ T s.x,q∈L0) (ok:cK s t) (fo:bq s m fn l) (l1:1≤l) (l2:l≤3) {Q:ad} {X:ac} (kk:∀ s',fZ s s' t (·=m)->((2≤l->bq s' m fn (l - 1)))->Q .none (aQ s'++L0)):ae c (n+8) (.ref 914) [.obj T.ft,.int m] L Q X:=by
 have hTT:=jv (c:=c) hL hT
 have h0:=hTT _ (.head _)
 refine yT fo.zn2 λo z ho oo ob hb zk z1 z2 z3 z4 z5=>?_
 have zk1:cf (gS z (-1) z.size):=dh zk (by lia) (by lia) zk.size
 refine ae.norm (fO λa=>@aa _ _ _ _ _ _ _ _ _ _ 12 ?_).fn
 intro GL
 show[aU (.inst (by exact h0) rfl rfl rfl),qv,df (T:=T) (dl:=-1) hL hT ok ho hb zk zk1 λx d s1 st1 g1=>?_]
 have fo1:=fo.up ho hb zk ⟨z1,z2,z3,z4⟩ zk1 g1
 refine aE st1.up λl1' e1=>?_
 subst e1
 show[aI (Aa _ (.head _)) rfl rfl,xj (λw=>?_) λw=>?_]
 ·exact ⟨_,.tail,kk _ st1 (λO=>fo1)⟩
 ·have w:=of_decide_eq_false w
  have hf:∀ M:ah,(T.ft,aj.inst 973 T.ftd (ftF T s.x))∈(c.R++((x,.inst 640 d (eO (gS z (-1) z.size)))::(M++L0))):=λM=>Aa _ (.tail _ (Aa _ (hT _ (.head _))))
  have ho2:∀ M:ah,(T.od,aj.dI [])∈(c.R++((x,.inst 640 d (eO (gS z (-1) z.size)))::(M++L0))):=λM=>Aa _ (.tail _ (Aa _ (hT _ (.tail _ (.tail _ (.head _))))))
  show[aI (by exact hf _) rfl rfl,o9 (by exact ho2 _),aI (by exact hf _) rfl rfl,aU (.inst (Aa _ (.tail _ (.head _))) rfl rfl rfl),(wC (L0:=(x,.inst 640 d (eO (gS z (-1) z.size)))::L0) List.perm_middle.symm st1.ok g1 ?_).le (lE n 2 7 rfl)]
  have ds:=(tt (k:=m) st1.ok).1
  refine ⟨_,⟨[_],AC⟩,kk _ ((st1.trans ds).less λj q=>q.elim id id) (λh=>?_)⟩
  have w:¬ 0 <z.links+-1:=w
  lia
end
theorem zw {F:Fs} {m:Int} {q:_root_.Fin 4} (q3:q≠3) (h:F.pt q=some m):1≤cnt F m:=by
 unfold cnt
 refine Gv (a:=q) (List.mem_filter.mpr ⟨?_,decide_eq_true h⟩)
 revert q3;clear h;revert q;decide+kernel
noncomputable def sA (F:Fs) (t:Int) (p:_root_.Fin 4):Option (Int × Fs):=match F.pt p with
 | none=>none
 | some _=>some (t,F.put p none)
theorem uQ {F:Fs} {t:Int} {p:_root_.Fin 4} (h:F.pt p=none):sA F t p=none:=by unfold sA;rw [h]
theorem mJ {F:Fs} {t m:Int} {p:_root_.Fin 4} (h:F.pt p=some m):sA F t p=some (t,F.put p none):=by unfold sA;rw [h]
theorem aB.dirIs {s:OS} {t:Int} {F:Fs} (r:aB s t F) {p:_root_.Fin 4} (h:dirOf F p=none):F.pt p=none:=by
 unfold dirOf at h
 by_cases z:p=2
 ·rw [if_pos z] at h;rw [z];exact r.nofo h
 ·rw [if_neg z] at h;cases h
theorem aii {s s':OS} {t m k:Int} {F:Fs} {p:_root_.Fin 4} (r:aB s t F) (p3:p≠3) (hp:F.pt p=some m) (hk:dirOf F p=some k) (st:fZ s s' t λj=>j=m∨j=k)
 (da:∃ rows:List bP,rows.Perm ((bY F (f9 p)).filter λr=>decide (r.1≠dp p))∧aT s' k rows (cH p) (aY F p)) (fo:2≤(cnt F m:Int)->bq s' m (F.nd m) (cnt F m - 1)):aB s' t (F.put p none):=by
 refine dR (r.file p m p3 hp) λn4 n3 O=>?_
 have oth:∀ x,x≠p->(F.put p none).pt x=F.pt x∧∀ m,F.pt x=some m->enc (F.put p none) x m=enc F x m:=λx hx=>⟨aG hx,λm O=>rfl⟩
 show[an da λrows' h1 h2=>?_,uM (p:=p) r hk p3 st.ok (BG _) r.t9 (aG λz=>p3 z.symm) oth (λj hj h=>st.oth j λz=>z.elim (λz=>?_) hj) ⟨rows',h1.trans (q5 (wH p) (.refl _) aF (λx O hx=>oth x hx)),h2⟩ λx y x3 hx=>?_]
 ·rcases h with h | h | h
  ·lia
  ·lia
  ·exact n3 (z▸h)
 ·have xp:x≠p:=λz=>by rw [z,aF] at hx;cases hx
  have hx2:=hx
  rw [aG xp] at hx
  show[dR (r.file x y x3 hx) λa b d=>?_,⟨a,b,?_⟩]
  by_cases z:y=m
  ·subst z
   have ca:=mH (F:=F.put p none) (F':=F) p3 (by rw [aF];exact λw=>by cases w) hp λw hw=>(aG hw).symm
   have cp:=zw x3 hx2
   have:=fo (by lia)
   rw [ca] at this
   have e:((cnt (F.put p none) y+1:Nat):Int) - 1=(cnt (F.put p none) y:Int):=by lia
   rw [e] at this
   exact this
  ·rewrite [eg (F:=F) (F':=F.put p none) λw O=>?_]
   ·show(d.get (st.oth y λw=>w.elim z λw=>?_),(oj hk).elim (by lia) λv=>b (w▸v))
   ·by_cases v:w=p
    ·rw [v,aF,hp]
     exact ⟨λu=>(by cases u),λu=>(by cases u;exact (z rfl).elim)⟩
    ·rw [aG v]
section
variable {c:Cx} {n:Nat} {L L0:ah}
theorem wL {s:OS} {t:Int} {F:Fs} {T:FT} {p:_root_.Fin 4} (p3:p≠3) (hL:L.Perm (aQ s++L0)) (hT:∀ q∈hZ T s.x,q∈L0) (r:aB s t F):
 ae c (n+12) (.ref 921) [.obj T.ft,.str (pS p)] L (λO L'=>Out s L0 (sA F t p) L') (λC L'=>dk.contains C=true∧L'=L∧sA F t p=none):=by
 have hm:=ci (c:=c) hL
 have hTT:=jv (c:=c) hL hT
 have h0:=hTT _ (.head _)
 have h1:=hTT _ (.tail _ (.head _))
 refine ae.norm (iU λa=>@aa _ _ _ _ _ _ _ _ _ _ 12 ?_).fn
 intro GL
 show[aI (by exact h0) rfl rfl,aI (by exact h0) rfl rfl,aI (by exact h1) rfl rfl,(eQ (by exact hm) r (λk hk=>?_) λC h e=>⟨L,.rfl,h,rfl,uQ (r.dirIs e)⟩).le (lE n 10 11 rfl),aI (by exact h0) rfl rfl,aI (by exact h0) rfl rfl,aU (.inst (by exact h1) rfl rfl rfl),(mE (by exact hm) (by exact h1) r (λm hp=>?_) λC h e=>⟨L,.rfl,h,rfl,uQ e⟩).le (lE n 10 11 rfl),dR (r.file p m p3 hp) λm4 m3 fo=>?_]
 have mk:=jw r p3 hp hk
 show[yT fo.zn2 λo z ho oo ob hb zk z1 z2 z3 z4 z5=>?_,(aK (by exact hm) ⟨⟨o,ho,oo,hb⟩,zk⟩ λy d=>?_).le (lE n 6 11 rfl),aI (Aa _ (.head _)) rfl rfl,cQ (by rw [z3];exact gU _),ec (r.dir2 p hk) λrows hr da hfr=>?_]
 rw [hp] at hfr
 have hL1:((y,aj.inst 640 d (eO z))::L).Perm (aQ s++((y,aj.inst 640 d (eO z))::L0)):=(hL.cons _).trans List.perm_middle.symm
 show[bS (pz F p m) λev es=>?_,aI (by exact bC h0) rfl rfl,(gQ hL1 r.ok da.zap (cA p) hfr λs1 st1 zz1 hb1=>?_).le (lE n 9 11 rfl)]
 have da1:=da.rows zz1 hb1
 have fo1:=fo.get (st1.oth m mk)
 refine e23 da1.zn2 λo2 zz gk bk zk2 zz2=>?_
 have zk3:cf (gS zz 0 zz.size):=dh zk2 (by rw [A9];exact zk2.links.1) (by rw [A9];exact zk2.links.2) zk2.size
 have hf:∀ M:ah,(T.ft,aj.inst 973 T.ftd (ftF T s.x))∈(c.R++(M++((y,aj.inst 640 d (eO z))::L0))):=λM=>Aa _ (Aa _ (.tail _ (hT _ (.head _))))
 refine aE st1.up λl1 e1=>?_
 subst e1
 show[aU (.inst (by exact hf _) rfl rfl rfl),(df (T:=T) (dl:=0) (.refl _) (by exact λq hq=>.tail _ (hT q hq)) st1.ok gk bk zk2 zk3 λx2 d2 s2 st2 g2=>?_).le (lE n 7 11 rfl)]
 have da2:=da1.links gk bk zk2 zz2 zk3 g2
 rw [A9] at da2
 have fo2:=fo1.get (st2.oth m mk)
 refine aE st2.up λl2 e2=>?_
 subst e2
 rw [ev]
 have cp:=zw p3 hp
 have cl:=afe F m
 show[aU (.inst (by exact bC (hf _)) rfl rfl rfl),(wK (T:=T) (L0:=(x2,.inst 640 d2 (eO (gS zz 0 zz.size)))::(y,.inst 640 d (eO z))::L0) List.perm_middle.symm (by exact λq hq=>.tail _ (.tail _ (hT q hq))) st2.ok fo2 (by lia) (by lia) λs3 st3 fo3=>?_).le (lE n 8 11 rfl)]
 have da3:=da2.get (st3.oth k λw=>mk w.symm)
 have st9:fZ s s3 t λj=>j=m∨j=k:=((st1.trans st2).trans st3).less λj q=>q.elim (λq=>q.elim .inr .inr) .inl
 refine ⟨aQ s3++L0,⟨[_,_],(AC (l₁:=aQ s3)).trans ((AC (l₁:=aQ s3)).cons _)⟩,s3,t,_,mJ hp,rfl,st9.eq,aii r p3 hp hk st9 ⟨_,hr.filter _,da3⟩ fo3⟩
end
noncomputable def fMk (F:Fs) (t:Int):Option (Int × Fs):=match F.pt 3 with
 | none=>some (t+1,F.put 3 (some (t+1)))
 | some _=>none
theorem afk {F:Fs} {t:Int} (h:F.pt 3≠none):fMk F t=none:=by
 unfold fMk
 cases e:F.pt 3 with
 | none=>exact (h e).elim
 | some n=>rfl
theorem zx {F:Fs} {t:Int} (h:F.pt 3=none):fMk F t=some (t+1,F.put 3 (some (t+1))):=by unfold fMk;rw [h]
noncomputable def fRd (F:Fs) (t:Int):Option (Int × Fs):=match F.pt 3,F.pt 2 with
 | some _,none=>some (t,F.put 3 none)
 | _,_=>none
theorem rf {F:Fs} {t:Int} (h:F.pt 3=none∨F.pt 2≠none):fRd F t=none:=by
 unfold fRd
 rcases h with h | h
 ·rw [h]
 ·cases e:F.pt 2 with
  | none=>exact (h e).elim
  | some n=>cases F.pt 3 <;> rfl
theorem aij {F:Fs} {t m:Int} (h:F.pt 3=some m) (h2:F.pt 2=none):fRd F t=some (t,F.put 3 none):=by unfold fRd;rw [h,h2]
theorem afm {F:Fs} {x:Option Int}:∀ q,q≠3->(F.put 3 x).pt q=F.pt q∧∀ m,F.pt q=some m->enc (F.put 3 x) q m=enc F q m:=λq hq=>⟨aG hq,λm O=>rfl⟩
theorem afn {F:Fs} {x:Option Int} {m:Int}:cnt (F.put 3 x) m=cnt F m:=eg λq hq=>by rw [aG hq]
theorem amu {s s':OS} {t:Int} {F:Fs} (r:aB s t F) (no:F.pt 3=none) (ht:t <900) (st:fZ s s' (t+1) λj=>j=t+1∨j=2)
 (pu:Put s' F 3 2 ((t+1) * 4+1) 3) (dn:aT s' (t+1) [] 493 2):aB s' (t+1) (F.put 3 (some (t+1))):=by
 have t3:=r.t3
 have no2:=r.nofo no
 have pt2:(F.put 3 (some (t+1))).pt 2=none:=(aG (by decide)).trans no2
 refine .of st.ok (by lia) (by lia) (r.master' (st.oth 1 (by lia))) (λq k' hq h=>?_) (λk' h=>?_) (λh=>?_) λq n q3 hq=>?_
 ·rcases hq with rfl | rfl
  ·have h:some (2:Int)=some k':=h
   cases h
   obtain ⟨rows',h1,h2⟩:=pu
   refine ⟨rows',mG (p:=3) (n:=t+1) (by decide) (by decide) (.refl _) aF rfl (λq O hq=>afm q hq) h1,?_⟩
   have e:aY (F.put 3 (some (t+1))) 0=3:=by
    show (if (F.put 3 (some (t+1))).pt 3 |>.isSome then (3:Int) else 2)=3
    rw [aF];rfl
   rw [e]
   exact h2
  ·have h:(F.put 3 (some (t+1))).pt 3=some k':=h
   rw [aF] at h;cases h
   refine ⟨[],?_,dn⟩
   have e:bY (F.put 3 (some (t+1))) (f9 2)=[]:=by
    show Hc _ [2]=[]
    rw [AO,pt2];rfl
   rw [e]
 ·rw [aF] at h;cases h;lia
 ·rw [aF] at h;cases h
 ·rw [aG q3] at hq
  refine dR (r.file q n q3 hq) λa b d=>?_
  have nn:=r.no hq
  refine ⟨a,?_,?_⟩
  ·rw [aF];exact λz=>by cases z;lia
  ·rw [afn];exact d.get (st.oth n (by lia))
theorem amv {s s':OS} {t m:Int} {F:Fs} (r:aB s t F) (h3:F.pt 3=some m) (no:F.pt 2=none) (st:fZ s s' t λj=>j=m∨j=2)
 (da:∃ rows:List bP,rows.Perm ((bY F (f9 3)).filter λr=>decide (r.1≠dp 3))∧aT s' 2 rows 0 2):aB s' t (F.put 3 none):=by
 have t3:=r.t3
 have m4:=(r.fold m h3).1
 refine .of st.ok t3 r.t9 (r.master' (st.oth 1 (by lia))) (λq k' hq h=>?_) (λk' h=>?_) (λh=>?_) λq n q3 hq=>?_
 ·rcases hq with rfl | rfl
  ·have h:some (2:Int)=some k':=h
   cases h
   show[an da λrows' h1 h2=>?_,⟨rows',h1.trans (q5 (by decide) (.refl _) aF (λq O hq=>afm q hq)),?_⟩]
   have e:aY (F.put 3 none) 0=2:=by
    show (if (F.put 3 none).pt 3 |>.isSome then (3:Int) else 2)=2
    rw [aF];rfl
   rw [e]
   exact h2
  ·have h:(F.put 3 none).pt 3=some k':=h
   rw [aF] at h;cases h
 ·rw [aF] at h;cases h
 ·exact (aG (by decide)).trans no
 ·rw [aG q3] at hq
  show[dR (r.file q n q3 hq) λa b d=>?_,⟨a,?_,?_⟩]
  ·rw [aF];exact λz=>by cases z
  ·rw [afn];exact d.get (st.oth n λw=>w.elim (λw=>b (w▸h3)) (by lia))
section
variable {c:Cx} {n:Nat} {L L0:ah}
theorem yH {s:OS} {t:Int} {F:Fs} {T:FT} (hL:L.Perm (aQ s++L0)) (hT:∀ q∈hZ T s.x,q∈L0) (r:aB s t F) (ht:t <900):
 ae c (n+12) (.ref 865) [.obj T.ft,.str (pS 3),.int 493] L (λO L'=>Out s L0 (fMk F t) L') (λC L'=>dk.contains C=true∧L'=L∧fMk F t=none):=by
 have hm:=ci (c:=c) hL
 have hTT:=jv (c:=c) hL hT
 have h0:=hTT _ (.head _)
 have t3:=r.t3
 refine ae.norm (gB λa=>@aa _ _ _ _ _ _ _ _ _ _ 12 ?_).fn
 intro GL
 show[aU (.inst (by exact h0) rfl rfl rfl),(js (by decide) (by decide) ?_).le (lE n 1 11 rfl),aU (.inst (by exact h0) rfl rfl rfl),ju (by exact hm) (by exact hTT) r (λk hk no=>?_) λC h e=>⟨L,.rfl,h,rfl,afk (e.elim (λz=>by cases z) id)⟩]
 have hk:some (2:Int)=some k:=hk
 cases hk
 refine ec (r.dir2 3 (k:=2) rfl) λrows hr da O=>?_
 have da:aT s 2 rows 0 (cz F):=da
 have rl:cz F=2:=by unfold cz;rw [no];rfl
 rw [rl] at da
 show[aI (by exact h0) rfl rfl,(n9 hL r.ok (by lia) (by decide) (by decide) λs1 st1 za1 hh1=>?_).le (lE n 7 11 rfl)]
 obtain ⟨o1,g1,bo1⟩:=hh1
 have da1:=da.get (st1.oth 2 (by lia))
 refine aE st1.up λl1 e1=>?_
 subst e1
 have hf:∀ M N:ah,(T.ft,aj.inst 973 T.ftd (ftF T s.x))∈(c.R++(M++(N++L0))):=λM N=>Aa _ (Aa _ (Aa _ (hT _ (.head _))))
 show[aI (by exact hf _ []) rfl rfl,aI (by exact hf _ []) rfl rfl,aI (by exact hf _ []) rfl rfl]
 have zk:=ae8 (sort:=1) (mode:=493) (links:=2) (k:=2) (by decide) (by decide) (by decide) (by decide)
 show[(pn (z:=⟨1,493,0,2,2,3,3⟩) λy d=>?_).le (lE n 2 11 rfl),(bU (z:=⟨1,493,0,2,2,3,3⟩) (x:=y) (d:=d) (L0:=(y,.inst 640 d (eO ⟨1,493,0,2,2,3,3⟩))::L0) List.perm_middle.symm st1.ok g1 zk (Aa _ (.head _)) λs2 st2 g2=>?_).le (lE n 5 11 rfl)]
 have da2:=da1.get (st2.oth 2 (by lia))
 have dn2:aT s2 (t+1) [] 493 2:=by
  obtain ⟨⟨q,e1,e2⟩,k0,k1⟩:=za1
  rw [g1] at e1;cases e1
  have ok2:=st2.ok.ok _ _ g2
  exact ⟨⟨⟨_,g2,ok2,e2.block,e2.enc,e2.rows⟩,k0,k1⟩,⟨1,493,0,2,2,3,3⟩,⟨⟨_,g2,ok2,rfl⟩,zk⟩,rfl,rfl,rfl⟩
 refine aE st2.up λl2 e2=>?_
 subst e2
 have ro:eP (dp 3,(t+1) * 4+1):=⟨cA 3,qW 3,ro4 (Au (by decide) (BH r.t3 1)) (BH r.t9 1) (by decide) (by decide)⟩
 show[aI (by exact hf _ [_]) rfl rfl,(ff (.refl _) st2.ok da2.zap ro (pC (p:=3) hr) λs3 rows' st3 hp3 zz3 hb3=>?_).le (lE n 9 11 rfl)]
 have da3:=da2.rows zz3 hb3
 have dn3:=dn2.get (st3.oth (t+1) (by lia))
 refine e23 da3.zn2 λo3 zz gk bk zk2 zz2=>?_
 have zk3:cf (gS zz 1 zz.size):=dh zk2 (by lia) (by lia) zk2.size
 refine aE st3.up λl3 e3=>?_
 subst e3
 show[aU (.inst (by exact hf _ [_]) rfl rfl rfl),(df (T:=T) (dl:=1) (.refl _) (by exact λq hq=>.tail _ (hT q hq)) st3.ok gk bk zk2 zk3 λx4 d4 s4 st4 g4=>?_).le (lE n 7 11 rfl)]
 have da4:=da3.links gk bk zk2 zz2 zk3 g4
 have dn4:=dn3.get (st4.oth (t+1) (by lia))
 have st9:fZ s s4 (t+1) λj=>j=t+1∨j=2:=(((st1.trans st2).trans st3).trans st4).less λj q=>q.elim (λq=>q.elim (λq=>.inl (q.elim id id)) .inr) .inr
 exact ⟨aQ s4++L0,⟨[_,_],(AC (l₁:=aQ s4)).cons _⟩,s4,t+1,_,zx no,rfl,st9.eq,amu r no ht st9 ⟨rows',hp3.trans ((hr.filter _).append_right _),da4⟩ dn4⟩
end
section
variable {c:Cx} {n:Nat} {L L0:ah}
theorem uR {s:OS} {t:Int} {F:Fs} {T:FT} (hL:L.Perm (aQ s++L0)) (hT:∀ q∈hZ T s.x,q∈L0) (r:aB s t F):
 ae c (n+12) (.ref 928) [.obj T.ft,.str (pS 3)] L (λO L'=>Out s L0 (fRd F t) L') (λC L'=>dk.contains C=true∧L'=L∧fRd F t=none):=by
 have hm:=ci (c:=c) hL
 have hTT:=jv (c:=c) hL hT
 have h0:=hTT _ (.head _)
 have h1:=hTT _ (.tail _ (.head _))
 refine ae.norm (fj λa=>@aa _ _ _ _ _ _ _ _ _ _ 12 ?_).fn
 intro GL
 show[aI (by exact h0) rfl rfl,aI (by exact h0) rfl rfl,aI (by exact h1) rfl rfl,(eQ (by exact hm) r (λk hk=>?_) λC h e=>⟨L,.rfl,h,rfl,rf (.inl (r.dirIs e))⟩).le (lE n 10 11 rfl)]
 have hk:some (2:Int)=some k:=hk
 cases hk
 show[aI (by exact h0) rfl rfl,aU (.inst (by exact h1) rfl rfl rfl),(mE (by exact hm) (by exact h1) r (λm hp=>?_) λC h e=>⟨L,.rfl,h,rfl,rf (.inl e)⟩).le (lE n 10 11 rfl)]
 obtain ⟨m4,frows,hfr,fda⟩:=r.fold m hp
 show[sC fda.zn λz hz hz1 O O=>?_,aI (by exact h0) rfl rfl,(fz (by exact hm) hz hz1 ?_).le (lE n 7 11 rfl),aI (by exact h0) rfl rfl,(yC (by exact hm) fda.zap ?_).le (lE n 8 11 rfl),xj (λw=>?_) λw=>?_]
 ·show[Ah (Bz _ _),kZ (by have:=(jQ 3).len;show 20+_≤_;lia),⟨_,rfl,L,.rfl,rfl,rfl,rf (.inr λe=>?_)⟩]
  have:bY F [2]=[]:=by show Hc _ [2]=[];rw [AO,e];rfl
  rw [this] at hfr
  rw [hfr.eq_nil] at w
  cases w
 have e2:F.pt 2=none:=by
  cases e:F.pt 2 with
  | none=>rfl
  | some x=>
   have:bY F [2]=[(dp 2,enc F 2 x)]:=by show Hc _ [2]=_;rw [AO,e];rfl
   rw [this] at hfr
   have:=hfr.length_eq
   cases frows with
   | nil=>cases this
   | cons _ _=>cases w
 refine ec (r.dir2 3 (k:=2) rfl) λrows hr da hfi=>?_
 have da:aT s 2 rows 0 (cz F):=da
 have rl:cz F=3:=by unfold cz;rw [hp];rfl
 rw [rl] at da
 rw [hp] at hfi
 show[aI (by exact h0) rfl rfl,(gQ hL r.ok da.zap (cA 3) hfi λs1 st1 zz1 hb1=>?_).le (lE n 9 11 rfl)]
 have da1:=da.rows zz1 hb1
 refine e23 da1.zn2 λo2 zz gk bk zk2 zz2=>?_
 have zk3:cf (gS zz (-1) zz.size):=dh zk2 (by lia) (by lia) zk2.size
 refine an fda.zap.ob λof gm O=>?_
 have gm1:=(st1.oth m (by lia)).trans gm
 have hf:∀ M N:ah,(T.ft,aj.inst 973 T.ftd (ftF T s.x))∈(c.R++(M++(N++L0))):=λM N=>Aa _ (Aa _ (Aa _ (hT _ (.head _))))
 refine aE st1.up λl1 e1=>?_
 subst e1
 show[aU (.inst (by exact hf _ []) rfl rfl rfl),qv,(df (T:=T) (dl:=-1) (.refl _) (by exact hT) st1.ok gk bk zk2 zk3 λx2 d2 s2 st2 g2=>?_).le (lE n 7 11 rfl)]
 have da2:=da1.links gk bk zk2 zz2 zk3 g2
 have gm2:=(st2.oth m (by lia)).trans gm1
 refine aE st2.up λl2 e3=>?_
 subst e3
 show[aI (by exact bC (hf _ [])) rfl rfl,aU (.inst (Aa _ (.tail _ (.head _))) rfl rfl rfl),(wC (L0:=(x2,.inst 640 d2 (eO (gS zz (-1) zz.size)))::L0) List.perm_middle.symm st2.ok gm2 ?_).le (lE n 2 11 rfl),bS (tt (k:=m) st2.ok) λds dg=>?_]
 have da3:=da2.get (ds.oth 2 (by lia))
 have st9:=((st1.trans st2).trans ds).less (K':=λj=>j=m∨j=2) λj q=>q.elim (λq=>.inr (q.elim id id)) .inl
 exact ⟨_,⟨[_],AC⟩,_,t,_,aij hp e2,rfl,st9.eq,amv r hp e2 st9 ⟨_,hr.filter _,da3⟩⟩
end
noncomputable def lx (s:OS) (F:Fs):Prop:=∀ q k',dirOf F q=some k'->∃ rows:List bP,rows.Perm (bY F (f9 q))∧aT s k' rows (cH q) (aY F q)
theorem aB.dirsOk {s:OS} {t:Int} {F:Fs} (r:aB s t F):lx s F:=λq k' h=>let ⟨rows,a,b,_⟩:=r.dir2 q h;⟨rows,a,b⟩
theorem aik {F:Fs} (f4:∀ k,F.pt 3=some k->4≤k) {p q:_root_.Fin 4} (h:¬ (p=2↔q=2)) {k k':Int} (h1:dirOf F p=some k) (h2:dirOf F q=some k'):k'≠k:=by
 unfold dirOf at h1 h2
 by_cases z:p=2
 ·have y:¬ q=2:=λw=>h ⟨λO=>w,λO=>z⟩
  rw [if_pos z] at h1
  rw [if_neg y] at h2
  cases h2
  have:=f4 k h1
  lia
 ·have y:q=2:=DG λw=>h ⟨λu=>(z u).elim,λu=>(w u).elim⟩
  rw [if_neg z] at h1
  rw [if_pos y] at h2
  cases h1
  have:=f4 k' h2
  lia
theorem aj2 {s s':OS} {k:Int} {F F':Fs} {p:_root_.Fin 4} (D:lx s F) (f4:∀ k,F.pt 3=some k->4≤k) (hk:dirOf F p=some k) (h3:F'.pt 3=F.pt 3)
 (oth:∀ q,q≠p->F'.pt q=F.pt q∧∀ m,F.pt q=some m->enc F' q m=enc F q m) (get:∀ j,j≠k->s'.get j=s.get j)
 (me:∃ rows:List bP,rows.Perm (bY F' (f9 p))∧aT s' k rows (cH p) (aY F p)):lx s' F':=λq k' h=>by
 refine bS (cL h3 q) λe1 e2=>?_
 rw [e1] at h
 rw [e2]
 by_cases z:p=2↔q=2
 ·refine e03 (wI (F:=F) z) λc1 c2 c3 c4=>?_
  rw [← c1,hk] at h;cases h
  rw [← c2,← c3,← c4]
  exact me
 ·show[an (D q k' h) λrows h1 h2=>?_,⟨rows,?_,h2.get (get k' (aik f4 z hk h))⟩]
  rw [oh λx hx=>oth x λw=>wJ p q z (w▸hx)]
  exact h1
theorem afo {F:Fs} {q:_root_.Fin 4} (h:F.pt q=none):F.put q none=F:=by
 obtain ⟨pt,nd⟩:=F
 show Fs.mk _ nd=Fs.mk pt nd
 congr 1
 funext x
 by_cases z:x=q
 ·rw [if_pos z,z];exact h.symm
 ·rw [if_neg z]
noncomputable def oZ (F:Fs) (t:Int) (p q:_root_.Fin 4):Option (Int × Fs):=match F.pt p,dirOf F q with
 | some m,some _=>if F.pt q=some m then some (t,F) else some (t,((F.put q none).put p none).put q (some m))
 | _,_=>none
theorem rg {F:Fs} {t:Int} {p q:_root_.Fin 4} (h:F.pt p=none):oZ F t p q=none:=by unfold oZ;rw [h]
theorem wM {F:Fs} {t:Int} {p q:_root_.Fin 4} (h:dirOf F q=none):oZ F t p q=none:=by unfold oZ;rw [h];cases F.pt p <;> rfl
theorem mK {F:Fs} {t m k:Int} {p q:_root_.Fin 4} (h:F.pt p=some m) (h2:dirOf F q=some k):oZ F t p q=if F.pt q=some m then some (t,F) else some (t,((F.put q none).put p none).put q (some m)):=by unfold oZ;rw [h,h2]
theorem ail {s s':OS} {t m kq:Int} {F:Fs} {p q:_root_.Fin 4} (r:aB s t F) (hkq:dirOf F q=some kq) (p3:p≠3) (q3:q≠3) (pq:p≠q) (hp:F.pt p=some m) (hq:F.pt q=none) (ok:cK s' t) (D:lx s' ((F.put p none).put q (some m)))
 (get:∀ j,j≠m->(∀ x,dirOf F x≠some j)->s'.get j=s.get j) (fo:bq s' m (F.nd m) (cnt F m)):aB s' t ((F.put p none).put q (some m)):=by
 have t3:=r.t3
 refine dR (r.file p m p3 hp) λn4 n3 O=>?_
 have h3:((F.put p none).put q (some m)).pt 3=F.pt 3:=(aG λz=>q3 z.symm).trans (aG λz=>p3 z.symm)
 have po:∀ x,x≠p->x≠q->((F.put p none).put q (some m)).pt x=F.pt x:=λx a b=>(aG b).trans (aG a)
 have pp:((F.put p none).put q (some m)).pt p=none:=(aG pq).trans aF
 have ca:cnt F m=cnt (F.put p none) m+1:=mH (F:=F.put p none) (F':=F) p3 (by rw [aF];exact λw=>by cases w) hp λw hw=>(aG hw).symm
 have cb:cnt ((F.put p none).put q (some m)) m=cnt (F.put p none) m+1:=mH q3 (by rw [aG λz=>pq z.symm,hq];exact λw=>by cases w) aF λw hw=>aG hw
 have cm:cnt ((F.put p none).put q (some m)) m=cnt F m:=cb.trans ca.symm
 have nd:∀ x j,dirOf F x=some j->j=2∨F.pt 3=some j:=λx j h=>oj h
 refine .of ok t3 r.t9 (r.master' (get 1 (by lia) λx z=>?_)) (λx k' O h=>D x k' h) (λk' h=>?_) (λh=>?_) λx y x3 hx=>?_
 ·have:=r.dirNo z;lia
 ·rw [h3] at h;exact (r.fold k' h).1
 ·rw [h3] at h
  have h2:=r.nofo h
  by_cases z:q=2
  ·rw [z] at hkq
   have hkq:F.pt 3=some kq:=hkq
   rw [h] at hkq;cases hkq
  ·by_cases w:(2:_root_.Fin 4)=p
   ·rw [w];exact pp
   ·rw [po 2 w λv=>z v.symm];exact h2
 ·rw [h3]
  by_cases z:x=q
  ·rw [z,aF] at hx;cases hx
   refine ⟨n4,n3,?_⟩
   rw [cm];exact fo
  ·have xp:x≠p:=λw=>by rw [w,pp] at hx;cases hx
   rw [po x xp z] at hx
   show[dR (r.file x y x3 hx) λa b d=>?_,⟨a,b,?_⟩]
   by_cases w:y=m
   ·subst w;rw [cm];exact fo
   ·rewrite [eg (F:=F) (F':=(F.put p none).put q (some m)) λv O=>?_]
    ·exact d.get (get y w λx z=>(nd x y z).elim (by lia) λu=>b u)
    ·by_cases u:v=q
     ·rw [u,aF,hq]
      exact ⟨λe=>(by cases e;exact (w rfl).elim),λe=>(by cases e)⟩
     ·by_cases u2:v=p
      ·rw [u2,pp,hp]
       exact ⟨λe=>(by cases e),λe=>(by cases e;exact (w rfl).elim)⟩
      ·rw [po v u2 u]
section
variable {c:Cx} {n:Nat} {L L0:ah}
theorem wN {s:OS} {t m sort:Int} {F:Fs} {T:FT} {q:_root_.Fin 4} (q3:q≠3) (hL:L.Perm (aQ s++L0)) (hT:∀ q∈hZ T s.x,q∈L0) (r:aB s t F) (hq:F.pt q=some m) (hs:¬ sort=1):
 ae c (n+13) (.ref 935) [.obj T.ft,.str (pS q),.int sort] L (λO L'=>∃ s',L'=aQ s'++L0∧(∃ l,s'={ s with objs:=l,top:=some t })∧aB s' t (F.put q none)) (λO O=>False):=by
 have hm:=ci (c:=c) hL
 have hTT:=jv (c:=c) hL hT
 have h0:=hTT _ (.head _)
 have h1:=hTT _ (.tail _ (.head _))
 show[dR (r.file q m q3 hq) λm4 m3 fo=>?_,yT fo.zn2 λo z ho oo ob hb zk z1 z2 z3 z4 z5=>?_]
 have hz:decide (z.sort=1)=false:=decide_eq_false (by rw [z3];exact gU _)
 refine ae.norm (fQ λa=>@aa _ _ _ _ _ _ _ _ _ _ 12 ?_).fn
 intro GL
 show[aI (by exact h0) rfl rfl,aU (.inst (by exact h1) rfl rfl rfl),(mE (by exact hm) (by exact h1) r (λm' hp=>?_) λC h e=>by rw [hq] at e;cases e).le (lE n 10 12 rfl)]
 rw [hq] at hp;cases hp
 show[aI (by exact h0) rfl rfl,(aK (by exact hm) ⟨⟨o,ho,oo,hb⟩,zk⟩ λy d=>?_).le (lE n 6 12 rfl),aI (Aa _ (.head _)) rfl rfl,fE hz,um (b:=!decide (z.sort=1)) (by rw [hz];rfl),cQ hs,fE (b:=decide (z.sort=1)) hz,aU (.inst (by exact bC h0) rfl rfl rfl),(ae.use (wL (T:=T) (L0:=(y,.inst 640 d (eO z))::L0) q3 ((hL.cons _).trans List.perm_middle.symm) (by exact λq hq=>.tail _ (hT q hq)) r) (λv L1 w=>?_) λC L1 w=>by rw [mJ hq] at w;cases w.2.2).le (AL _)]
 obtain ⟨s',t',F',e1,q1',e2,r'⟩:=w
 subst q1'
 rw [mJ hq] at e1
 cases e1
 exact ⟨aQ s'++L0,⟨[_],AC⟩,s',rfl,e2,r'⟩
end
theorem rh {x y:Int} {k:Nat} (hx:0≤x∧x <256 ^ k) (hy:0≤y∧y <256 ^ k) (e:aJ x k=aJ y k):x=y:=by
 have h:=cU k x hx.1 hx.2
 rw [e,cU k y hy.1 hy.2] at h
 exact h.symm
theorem afp {z y:Zn} (hz:cf z) (hy:cf y) (e:bO z=bO y):z.sort=y.sort∧z.mode=y.mode∧z.links=y.links:=by
 refine ⟨rh (k:=1) ⟨hz.sort.1,Az hz.sort.2 (by decide)⟩ ⟨hy.sort.1,Az hy.sort.2 (by decide)⟩ ((zs1 z rfl).symm.trans (zs1 y e)),rh (k:=2) hz.mode hy.mode ((zs2 z rfl).symm.trans (zs2 y e)),rh (k:=2) hz.links hy.links ((zs4 z rfl).symm.trans (zs4 y e))⟩
theorem aT.keep0 {s s':OS} {t k:Int} {o:Ob} {z:Zn} (ho:s.get k=some o) (hb:o.bonus=bO z) (zk:cf z) (zk2:cf (gS z 0 z.size)) (g:s'.get k=some { o with bonus:=bO (gS z 0 z.size) }) (st:fZ s s' t (·=k)) (j:Int) (rows:List bP) (mo li:Int) (h:aT s j rows mo li):aT s' j rows mo li:=by
 by_cases q:j=k
 ·subst q
  refine e23 h.zn2 λo2 z2 h1 h2 h3 h4=>?_
  rw [ho] at h1;cases h1
  refine dR (afp zk h3 (hb.symm.trans h2)) λa b d=>?_
  have:=h.links ho hb zk ⟨a.trans h4.1,b.trans h4.2.1,d.trans h4.2.2⟩ zk2 g
  rwa [A9] at this
 ·exact h.get (st.oth j q)
theorem aim {z:Zn} (h:cf z):cf (gS z 0 z.size):=dh h (by rw [A9];exact h.links.1) (by rw [A9];exact h.links.2) h.size
section
variable {c:Cx} {n:Nat} {L L0:ah}
theorem ain {s:OS} {t m k1 k2 l l1 l2 m1 m2:Int} {r1 r2:List bP} {fn:FN} {T:FT} (hL:L.Perm (aQ s++L0)) (hT:∀ q∈hZ T s.x,q∈L0) (ok:cK s t) (fo:bq s m fn l) (d1:aT s k1 r1 m1 l1) (d2:aT s k2 r2 m2 l2) (n1:m≠k1) (n2:m≠k2) (kb:0≤k2∧k2 <4294967296) {Q:ad} {X:ac} (kk:∀ s',(fZ s s' t (λj=>j=m∨j=k1∨j=k2))->bq s' m fn l->(∀ j rows mo li,j≠m->aT s j rows mo li->aT s' j rows mo li)->Q .none (aQ s'++L0)):ae c (n+8) (.ref 949) [.obj T.ft,.int m,.int k1,.int k2] L Q X:=by
 have hm:=ci (c:=c) hL
 have hTT:=jv (c:=c) hL hT
 have h0:=hTT _ (.head _)
 show[yT fo.zn2 λo z ho oo ob hb zk z1 z2 z3 z4 z5=>?_,ae.norm (jZ λa=>@aa _ _ _ _ _ _ _ _ _ _ 12 ?_).fn]
 intro GL
 show[aI (by exact h0) rfl rfl,(aK (by exact hm) ⟨⟨o,ho,oo,hb⟩,zk⟩ λy d=>?_).le (lE n 6 7 rfl),aI (Aa _ (.head _)) rfl rfl,adq]
 obtain ⟨mm,em⟩:∃ mm:Int,(if decide (z.sort=1) then (1:Int) else 0)=mm:=⟨_,rfl⟩
 have e0:mm=0:=by rw [← em,if_neg];rw [decide_eq_false (by rw [z3];exact gU _)];exact AK
 rw [em,e0]
 show[xk (Ah rfl ?_),aI (by exact bC h0) rfl rfl,ak .here rfl,ak .here rfl,aI (by exact bC h0) rfl rfl]
 have zk2:cf { z with parent:=k2,changed:=3 }:=⟨zk.sort,zk.mode,zk.size,zk.links,kb,zk.made,(show (0:Int)≤3∧(3:Int) <4294967296 by decide)⟩
 refine (bU (z:={ z with parent:=k2,changed:=3 }) (x:=y) (d:=d) (L0:=(y,.inst 640 d (eO { z with parent:=k2,changed:=3 }))::L0) ((hL.cons _).trans List.perm_middle.symm) ok ho zk2 (Aa _ (.head _)) λs1 st1 g1=>?_).le (lE n 5 7 rfl)
 have fo1:bq s1 m fn l:=⟨⟨_,_,g1,st1.ok.ok _ _ g1,ob,rfl,zk2,z1,z2,z3,z4,z5⟩,fo.len,fo.lnk⟩
 have kp1:∀ j rows mo li,j≠m->aT s j rows mo li->aT s1 j rows mo li:=λj O O O h x=>x.get (st1.oth j h)
 have d1':=kp1 _ _ _ _ n1.symm d1
 have d2':=kp1 _ _ _ _ n2.symm d2
 refine e23 d1'.zn2 λo2 zz gk bk zk3 zz3=>?_
 have hf:∀ M N:ah,(T.ft,aj.inst 973 T.ftd (ftF T s.x))∈(c.R++(M++(N++L0))):=λM N=>Aa _ (Aa _ (Aa _ (hT _ (.head _))))
 refine aE st1.up λl1' e1=>?_
 subst e1
 show[aU (.inst (by exact hf _ [_]) rfl rfl rfl),df (T:=T) (dl:=0) (.refl _) (by exact λq hq=>.tail _ (hT q hq)) st1.ok gk bk zk3 (aim zk3) λx2 e2 s2 st2 g2=>?_]
 have kp2:=aT.keep0 gk bk zk3 (aim zk3) g2 st2
 have fo2:=fo1.get (st2.oth m n1)
 show[e23 ((kp2 _ _ _ _ d2').zn2) λo3 z9 gk2 bk2 zk4 zz4=>?_,aE st2.up λl2' e3=>?_]
 subst e3
 show[aU (.inst (by exact bC (hf _ [_])) rfl rfl rfl),df (T:=T) (dl:=0) (L0:=(x2,.inst 640 e2 (eO (gS zz 0 zz.size)))::(y,.inst 640 d (eO { z with parent:=k2,changed:=3 }))::L0) List.perm_middle.symm (by exact λq hq=>.tail _ (.tail _ (hT q hq))) st2.ok gk2 bk2 zk4 (aim zk4) λx3 d3 s3 st3 g3=>?_]
 have kp3:=aT.keep0 gk2 bk2 zk4 (aim zk4) g3 st3
 refine ⟨aQ s3++L0,⟨[_,_,_],((AC (l₁:=aQ s3)).trans ((AC (l₁:=aQ s3)).cons _)).cons _⟩,kk s3 (((st1.trans st2).trans st3).less λj q=>q.elim (λq=>q.elim .inl λw=>.inr (.inl w)) λw=>.inr (.inr w)) (fo2.get (st3.oth m n2)) (λj rows mo li h x=>kp3 _ _ _ _ (kp2 _ _ _ _ (kp1 j rows mo li h x)))⟩
end
section
variable {c:Cx} {n:Nat} {L L0:ah}
inductive ath (s:OS) (t:Int) (F:Fs) (T:FT) (L0:ah) (p q:_root_.Fin 4) (m1:Loc) (L1:ah):Prop
 | mk (m kp kq:Int) (y d:Addr) (z:Zn) (s1:OS) (h0:m1.lookup ("self":Str)=some (.obj T.ft)) (h1:m1.lookup ("folder":Str)=some (.int kp)) (h2:m1.lookup ("name":Str)=some (.str (dp p))) (h3:m1.lookup ("goal":Str)=some (.int kq)) (h4:m1.lookup ("goal_name":Str)=some (.str (dp q))) (h5:m1.lookup ("number":Str)=some (.int m)) (h6:m1.lookup ("znode":Str)=some (.obj y)) (h7:L1.Perm (aQ s1++((y,aj.inst 640 d (eO z))::L0))) (h8:(∃ l,s1={ s with objs:=l,top:=some t })) (h9:aB s1 t (F.put q none)) (h10:F.pt p=some m) (h11:dirOf F p=some kp) (h12:dirOf F q=some kq) (h13:F.pt q≠some m) (h14:z.sort=(F.nd m).th.sort)
theorem afq {s:OS} {t:Int} {F:Fs} {T:FT} {p q:_root_.Fin 4} (p3:p≠3) (q3:q≠3) (hL:L.Perm (aQ s++L0)) (hT:∀ q∈hZ T s.x,q∈L0) (r:aB s t F):
 ae c (n+14) (.ref 942) [.obj T.ft,.str (pS p),.str (pS q)] L (λO L'=>Out s L0 (oZ F t p q) L') (λC L'=>dk.contains C=true∧L'=L∧oZ F t p q=none):=by
 have hm:=ci (c:=c) hL
 have hTT:=jv (c:=c) hL hT
 have h0:=hTT _ (.head _)
 have h1:=hTT _ (.tail _ (.head _))
 refine ae.norm (iV λa=>nZ 12 8 (ath s t F T L0 p q) ?_ λm1 L1 J=>@aa _ _ _ _ _ _ _ _ _ _ 12 ?_).fn
 rotate_left
 ·intro GL
  obtain ⟨m,kp,kq,y,d,z,s1,j1,j2,j3,j4,j5,j6,j7,jL,⟨l1,rfl⟩,r1,hp,hkp,hkq,hq,hz⟩:=J
  have pq:p≠q:=λw=>hq (w▸hp)
  have hp1:(F.put q none).pt p=some m:=(aG pq).trans hp
  have h31:(F.put q none).pt 3=F.pt 3:=aG λw=>q3 w.symm
  have hkp1:dirOf (F.put q none) p=some kp:=(cL h31 p).1.trans hkp
  have hkq1:dirOf (F.put q none) q=some kq:=(cL h31 q).1.trans hkq
  refine dR (r1.file p m p3 hp1) λm4 m3 fo=>?_
  have mt:=r1.no hp1
  have mkp:=jw r1 p3 hp1 hkp1
  have mkq:=jw r1 p3 hp1 hkq1
  have f4:∀ k,(F.put q none).pt 3=some k->4≤k:=λk h=>(r1.fold k h).1
  refine ec (r1.dir2 p hkp1) λrows hr da hfi=>?_
  rw [hp1] at hfi
  have kq0:=r1.dirNo hkq1
  have t9:=r1.t9
  have hf:∀ M:ah,(T.ft,aj.inst 973 T.ftd (ftF T s.x))∈(c.R++(M++((y,aj.inst 640 d (eO z))::L0))):=λM=>Aa _ (Aa _ (.tail _ (hT _ (.head _))))
  have hzn:∀ M:ah,(y,aj.inst 640 d (eO z))∈(c.R++(M++((y,aj.inst 640 d (eO z))::L0))):=λM=>Aa _ (Aa _ (.head _))
  show[aV j1,aI (Aa _ (jL.mem_iff.mpr (Aa _ (.tail _ (hT _ (.head _)))))) rfl rfl,aV j2,aV j3,(gQ jL r1.ok da.zap (cA p) hfi λs2 st2 zz2 hb2=>?_).le (lE n 9 13 rfl)]
  have da2:=da.rows zz2 hb2
  have oth2:∀ x,x≠p->((F.put q none).put p none).pt x=(F.put q none).pt x∧∀ m,(F.put q none).pt x=some m->enc ((F.put q none).put p none) x m=enc (F.put q none) x m:=λx hx=>⟨aG hx,λO O=>rfl⟩
  have D2:lx s2 ((F.put q none).put p none):=aj2 r1.dirsOk f4 hkp1 (aG λw=>p3 w.symm) oth2 (λj hj=>st2.oth j hj) ⟨_,(hr.filter _).trans (q5 (wH p) (.refl _) aF λx O hx=>oth2 x hx),da2⟩
  have h32:((F.put q none).put p none).pt 3=(F.put q none).pt 3:=aG λw=>p3 w.symm
  have hkq2:dirOf ((F.put q none).put p none) q=some kq:=(cL h32 q).1.trans hkq1
  refine an (D2 q kq hkq2) λrows2 hr2 db=>?_
  have fo2:=fo.get (st2.oth m mkp)
  have ro:eP (dp q,m * 4+z.sort):=⟨cA q,qW q,ro4 (Au (by decide) m4) (Au mt.2 (Au t9 (by decide))) (by rw [hz];exact (zt _).1) (by rw [hz];exact (zt _).2)⟩
  refine aE st2.up λl2 e2=>?_
  subst e2
  show[aV j1,aI (by exact hf _) rfl rfl,aV j4,aV j5,aV j6,aV j7,aI (by exact hzn _) rfl rfl,(ff (.refl _) st2.ok db.zap ro (pC hr2) λs3 rows3 st3 hp3 zz3 hb3=>?_).le (lE n 9 13 rfl)]
  have db3:=db.rows zz3 hb3
  have oth3:∀ x,x≠q->(((F.put q none).put p none).put q (some m)).pt x=((F.put q none).put p none).pt x∧∀ k,((F.put q none).put p none).pt x=some k->enc (((F.put q none).put p none).put q (some m)) x k=enc ((F.put q none).put p none) x k:=λx hx=>⟨aG hx,λO O=>rfl⟩
  have f42:∀ k,((F.put q none).put p none).pt 3=some k->4≤k:=λk h=>f4 k (h32▸h)
  have D3:lx s3 (((F.put q none).put p none).put q (some m)):=aj2 D2 f42 hkq2 (aG λw=>q3 w.symm) oth3 (λj hj=>st3.oth j hj) ⟨rows3,mG (wH q) (pA q) hr2 aF (by unfold enc;rw [if_neg q3,hz];rfl) (λx O hx=>oth3 x hx) hp3,db3⟩
  have h33:(((F.put q none).put p none).put q (some m)).pt 3=((F.put q none).put p none).pt 3:=aG λw=>q3 w.symm
  show[an (D3 p kp ((cL h33 p).1.trans ((cL h32 p).1.trans hkp1))) λra O dka=>?_,an (D3 q kq ((cL h33 q).1.trans hkq2)) λrb O dkb=>?_]
  have fo3:=fo2.get (st3.oth m mkq)
  refine aE st3.up λl3 e3=>?_
  subst e3
  show[aV j1,aU (.inst (by exact hf _) rfl rfl rfl),aV j6,aV j2,aV j4,(ain (T:=T) (.refl _) (by exact λq hq=>.tail _ (hT q hq)) st3.ok fo3 dka dkb mkp mkq (by lia) λs4 st4 fo4 kp4=>?_).le (lE n 8 13 rfl)]
  have st9:=((st2.trans st3).trans st4).less (K':=λj=>j=m∨j=kp∨j=kq) λj w=>w.elim (λw=>w.elim (λw=>.inr (.inl w)) λw=>.inr (.inr w)) id
  have D4:lx s4 (((F.put q none).put p none).put q (some m)):=λx k' h=>by
   show[an (D3 x k' h) λrs a1 a2=>?_,⟨rs,a1,kp4 k' _ _ _ (λw=>?_) a2⟩]
   subst w
   exact jw r1 p3 hp1 ((cL h32 x).1.symm.trans ((cL h33 x).1.symm.trans h)) rfl
  have stA:∃ l,s4={ s with objs:=l,top:=some t }:=st9.eq
  refine ⟨aQ s4++L0,⟨[_],AC⟩,s4,t,_,?_,rfl,stA,ail r1 hkq1 p3 q3 pq hp1 aF st9.ok D4 (λj hj hx=>st9.oth j λw=>?_) fo4⟩
  ·rw [mK hp hkq,if_neg hq]
  ·rcases w with w | w | w
   ·exact hj w
   ·exact hx p (w▸hkp1)
   ·exact hx q (w▸hkq1)
 intro GL
 show[aI (by exact h0) rfl rfl,aI (by exact h0) rfl rfl,aI (by exact h1) rfl rfl,(eQ (by exact hm) r (λkp hkp=>?_) λC h e=>⟨L,.rfl,h,rfl,rg (r.dirIs e)⟩).le (lE n 10 13 rfl),aI (by exact h0) rfl rfl,aU (.inst (by exact h1) rfl rfl rfl),(mE (by exact hm) (by exact h1) r (λm hp=>?_) λC h e=>⟨L,.rfl,h,rfl,rg e⟩).le (lE n 10 13 rfl),aI (by exact h0) rfl rfl,aI (by exact h0) rfl rfl,aI (by exact h1) rfl rfl,(eQ (by exact hm) r (λkq hkq=>?_) λC h e=>⟨L,.rfl,h,rfl,wM e⟩).le (lE n 10 13 rfl),(dc (cA q) ?_).le (lE n 2 13 rfl),dR (r.file p m p3 hp) λm4 m3 fo=>?_,yT fo.zn2 λo z ho oo ob hb zk z1 z2 z3 z4 z5=>?_,ec (r.dir2 q hkq) λrows hr da hfi=>?_,oY (Am _ (Ah rfl ?_)),aI (by exact h0) rfl rfl,(aK (by exact hm) ⟨⟨o,ho,oo,hb⟩,zk⟩ λy d=>?_).le (lE n 6 13 rfl)]
 have hL1:((y,aj.inst 640 d (eO z))::L).Perm (aQ s++((y,aj.inst 640 d (eO z))::L0)):=(hL.cons _).trans List.perm_middle.symm
 show[aI (by exact bC h0) rfl rfl,(jP (by exact λx hx=>bC (hm x hx)) da.zap (cA q) ?_).le (lE n 8 13 rfl),Am _ (Ah rfl (Ah rfl ?_)),aI (Aa _ (.head _)) rfl rfl,cQ (by rw [z3];exact gU _)]
 rw [hfi]
 cases e:F.pt q with
 | none=>
  refine ⟨m,kp,kq,y,d,z,s,rfl,rfl,rfl,rfl,rfl,rfl,rfl,hL1,⟨s.objs,by rw [← r.ok.top]⟩,?_,hp,hkp,hkq,λw=>(by rw [e] at w;cases w),z3⟩
  rw [afo e];exact r
 | some m2=>
  show[bS (pz F q m2) λev es=>?_,eH (by show 2≤_;decide) rfl (by decide) rfl]
  rw [ev]
  refine xj (λw=>?_) λw=>?_
  ·have w:=of_decide_eq_true w
   subst w
   refine ⟨aQ s++L0,⟨[_],hL.cons _⟩,s,t,F,?_,rfl,⟨s.objs,by rw [← r.ok.top]⟩,r⟩
   rw [mK hp hkq,if_pos e]
  ·have w:=of_decide_eq_false w
   show[aU (.inst (by exact bC h0) rfl rfl rfl),aI (Aa _ (.head _)) rfl rfl,((wN (T:=T) (L0:=(y,.inst 640 d (eO z))::L0) q3 hL1 (by exact λq hq=>.tail _ (hT q hq)) r e (by rw [z3];exact gU _)).le (lE n 13 13 rfl)).useL]
   intro QL v L1 u
   show[ec u]
   clear u
   intro s1 q1' e1 r1
   subst q1'
   exact ⟨m,kp,kq,y,d,z,s1,rfl,rfl,rfl,rfl,rfl,rfl,rfl,.refl _,e1,r1,hp,hkp,hkq,λv=>(by rw [e] at v;cases v;exact w rfl),z3⟩
end
inductive d8 where
 | create (p:_root_.Fin 4)
 | write (p:_root_.Fin 4) (i:Int) (oc:List UInt8)
 | trunc (p:_root_.Fin 4) (i:Int)
 | remove (p:_root_.Fin 4)
 | rename (p q:_root_.Fin 4)
 | mk
 | rd
 | link (p q:_root_.Fin 4)
 | sym (p q:_root_.Fin 4)
 | mode (p:_root_.Fin 4) (m:Int)
noncomputable def d8.val:d8->V
 | .create p=>.tup [.str "create",.str (pS p),.int 420]
 | .write p i oc=>.tup [.str "write",.str (pS p),.int i,.bytes oc]
 | .trunc p i=>.tup [.str "truncate",.str (pS p),.int i]
 | .remove p=>.tup [.str "remove",.str (pS p)]
 | .rename p q=>.tup [.str "rename",.str (pS p),.str (pS q)]
 | .mk=>.tup [.str "make_dir",.str (pS 3),.int 493]
 | .rd=>.tup [.str "remove_dir",.str (pS 3)]
 | .link p q=>.tup [.str "link",.str (pS p),.str (pS q)]
 | .sym p q=>.tup [.str "symlink",.str (pS p),.str (pS q)]
 | .mode p m=>.tup [.str "set_mode",.str (pS p),.int m]
noncomputable def d8.Ok:d8->Prop
 | .create p=>p≠3
 | .write p i oc=>p≠3∧0≤i∧i+oc.length≤100∧0 <oc.length
 | .trunc p i=>p≠3∧0≤i∧i≤100
 | .remove p=>p≠3
 | .rename p q=>p≠3∧q≠3
 | .mk=>True
 | .rd=>True
 | .link p q=>p≠3∧q≠3
 | .sym p q=>p≠3∧q≠3
 | .mode p m=>p≠3∧0≤m∧m <65536
noncomputable def dj (F:Fs) (t:Int):d8->Option (Int × Fs)
 | .create p=>om F t p ⟨.oct [],420⟩
 | .write p i oc=>km F t p (gW i.toNat oc)
 | .trunc p i=>km F t p (gT i.toNat)
 | .remove p=>sA F t p
 | .rename p q=>oZ F t p q
 | .mk=>fMk F t
 | .rd=>fRd F t
 | .link p q=>ga F t p q
 | .sym p q=>om F t p ⟨.lnk q,0⟩
 | .mode p m=>km F t p (gM m)
section
variable {c:Cx} {n:Nat} {L L0:ah}
noncomputable def eR:List Str:=["create","make_dir","symlink","link","rename"]
theorem jx {c:Cx} {n:Nat} {L:ah} {Q:ad} {X:ac} {v:V} {l:List V} (hl:D7 l.length 10=true) (h:Q v L):du c n (.tup (v::l)) (.int 0) L Q X:=
 eH (k:=0) (by rw [AJ];have:=Bq hl;lia) (by unfold IL;simp) (by decide) rfl h
theorem abe {c:Cx} {n:Nat} {L:ah} {Q:ad} {X:ac} {v w:V} {l:List V} (hl:D7 l.length 10=true) (h:Q w L):du c n (.tup (v::w::l)) (.int 1) L Q X:=
 eH (k:=1) (by rw [AJ,AJ];have:=Bq hl;lia) (by unfold IL;simp;lia) (by decide) rfl h
theorem gc {c:Cx} {n:Nat} {L:ah} {Q:ad} {X:ac} {v w x:V} {l:List V} (hl:D7 l.length 10=true) (h:Q x L):du c n (.tup (v::w::x::l)) (.int 2) L Q X:=
 eH (k:=2) (by rw [AJ,AJ,AJ];have:=Bq hl;lia) (by unfold IL;simp;lia) (by decide) rfl h
theorem amw {c:Cx} {n:Nat} {L:ah} {Q:ad} {X:ac} {v w x y:V} (h:Q y L):du c n (.tup [v,w,x,y]) (.int 3) L Q X:=
 eH (k:=3) (by show 4≤_;decide) rfl (by decide) rfl h
theorem yI {s:OS} {t:Int} {F:Fs} {T:FT} {rc:d8} (ok:rc.Ok) (hL:L.Perm (aQ s++L0)) (hT:∀ q∈hZ T s.x,q∈L0) (r:aB s t F) (ht:t <900):
 ae c (n+16) (.ref 187) [.obj T.ft,rc.val] L (λO L'=>Out s L0 (dj F t rc) L') (λC L'=>dk.contains C=true∧L'=L∧dj F t rc=none):=by
 have h0:=jv (c:=c) hL hT _ (.head _)
 refine (sP λa=>@aa _ _ _ _ _ _ _ _ _ _ 12 ?_).fn
 intro GL
 cases rc with
 | create p=>
  show[jx rfl,aO (ns:=eR) rfl,(fJ λa=>@aa _ _ _ _ _ _ _ _ _ _ 12 ?_).fn]
  intro GL
  show(aU (.inst (by exact h0) rfl rfl rfl),(afc ok hL hT r ht (by decide)).le (lE n 13 14 rfl))
 | mk=>
  show[jx rfl,aO (ns:=eR) rfl,(fJ λa=>@aa _ _ _ _ _ _ _ _ _ _ 12 ?_).fn]
  intro GL
  show(aU (.inst (by exact h0) rfl rfl rfl),(yH hL hT r ht).le (lE n 12 14 rfl))
 | sym p q=>
  show[jx rfl,aO (ns:=eR) rfl,(fJ λa=>@aa _ _ _ _ _ _ _ _ _ _ 12 ?_).fn]
  intro GL
  show(aU (.inst (by exact h0) rfl rfl rfl),(abc ok.1 ok.2 hL hT r ht).le (lE n 13 14 rfl))
 | link p q=>
  show[jx rfl,aO (ns:=eR) rfl,(fJ λa=>@aa _ _ _ _ _ _ _ _ _ _ 12 ?_).fn]
  intro GL
  show(aU (.inst (by exact h0) rfl rfl rfl),(amt ok.1 ok.2 hL hT r ht).le (lE n 12 14 rfl))
 | rename p q=>
  show[jx rfl,aO (ns:=eR) rfl,(fJ λa=>@aa _ _ _ _ _ _ _ _ _ _ 12 ?_).fn]
  intro GL
  show(aU (.inst (by exact h0) rfl rfl rfl),(afq ok.1 ok.2 hL hT r).le (lE n 14 14 rfl))
 | remove p=>
  show(jx rfl,aO (ns:=eR) rfl,aU (.inst (by exact h0) rfl rfl rfl),abe rfl,(wL ok hL hT r).le (lE n 12 15 rfl))
 | rd=>
  show(jx rfl,aO (ns:=eR) rfl,aU (.inst (by exact h0) rfl rfl rfl),abe rfl,(uR hL hT r).le (lE n 12 15 rfl))
 | write p i oc=>
  show(jx rfl,aO (ns:=eR) rfl,aU (.inst (by exact h0) rfl rfl rfl),abe rfl,gc rfl,amw,(aih ok.1 hL hT r ok.2.1 ok.2.2.1 ok.2.2.2).le (lE n 12 15 rfl))
 | trunc p i=>
  show(jx rfl,aO (ns:=eR) rfl,aU (.inst (by exact h0) rfl rfl rfl),abe rfl,gc rfl,(yG ok.1 hL hT r ok.2.1 ok.2.2).le (lE n 12 15 rfl))
 | mode p m=>
  show(jx rfl,aO (ns:=eR) rfl,aU (.inst (by exact h0) rfl rfl rfl),abe rfl,gc rfl,(yF ok.1 hL hT r ok.2).le (lE n 12 15 rfl))
theorem amx {v:V}:ae c (n+3) (.ref 187) [v,.tup [.str "frob",.str "/a"]] L (λO O=>False) (λC L'=>C=99∧L'=L):=by
 refine (sP λa=>@aa _ _ _ _ _ _ _ _ _ _ 12 ?_).fn
 intro GL
 show(jx rfl,aO (ns:=eR) rfl,Ah (Bz _ _),⟨_,rfl,rfl,rfl⟩)
end
theorem sp {α β:Type} {a c:α} {b d:β} (h:some (a,b)=some (c,d)):a=c∧b=d:=Cd (AH h)
theorem t01 {α:Type} {t t':Int} {F F':α} (h:some (t,F)=some (t',F')):t≤t'∧t'≤t+1:=(sp h).1▸⟨BG _,Bd (by decide)⟩
theorem t11 {α:Type} {t t':Int} {F F':α} (h:some (t+1,F)=some (t',F')):t≤t'∧t'≤t+1:=(sp h).1▸⟨Bd (by decide),BG _⟩
theorem uS {F F':Fs} {t t':Int} {rc:d8} (h:dj F t rc=some (t',F')):t≤t'∧t'≤t+1:=by
 have new:∀ {p:_root_.Fin 4} {fn:FN},om F t p fn=some (t',F')->t≤t'∧t'≤t+1:=λh=>by
  unfold om at h;split at h
  ·exact t11 h
  ·exact ns h
 have mod:∀ {p:_root_.Fin 4} {g:FN->FN},km F t p g=some (t',F')->t≤t'∧t'≤t+1:=λh=>by
  unfold km at h;split at h
  ·exact ns h
  ·exact t01 h
 cases rc with
 | create p=>exact new h
 | sym p q=>exact new h
 | write p i oc=>exact mod h
 | trunc p i=>exact mod h
 | mode p m=>exact mod h
 | remove p=>
  have h:sA F t p=some (t',F'):=h
  unfold sA at h;split at h
  ·exact ns h
  ·exact t01 h
 | rename p q=>
  have h:oZ F t p q=some (t',F'):=h
  unfold oZ at h;split at h
  ·split at h <;> exact t01 h
  ·exact ns h
 | mk=>
  have h:fMk F t=some (t',F'):=h
  unfold fMk at h;split at h
  ·exact t11 h
  ·exact ns h
 | rd=>
  have h:fRd F t=some (t',F'):=h
  unfold fRd at h;split at h
  ·exact t01 h
  ·exact ns h
 | link p q=>
  have h:ga F t p q=some (t',F'):=h
  unfold ga at h;split at h
  ·exact t01 h
  ·exact ns h
noncomputable def wO (x:Int × d8):V:=.tup [.int x.1,x.2.val]
noncomputable def fB:List (Int × d8)->Int->Int->Fs->Option (Int × Int × Fs)
 | [],q,t,F=>some (q,t,F)
 | x::l,q,t,F=>match decide (q <x.1) with
  | true=>match dj F t x.2 with
   | some (t',F')=>fB l x.1 t' F'
   | none=>none
  | false=>fB l q t F
section
variable {c:Cx} {n:Nat} {L L0:ah}
inductive aq1 (s:OS) (T:FT) (L0:ah) (rows:List (Int × d8)) (t t' q':Int) (F':Fs) (i:Nat) (m:Loc) (L':ah):Prop
 | mk (q1 t1:Int) (F1:Fs) (s1:OS) (h0:m.lookup ("files":Str)=some (.obj T.ft)) (h1:m.lookup ("seq":Str)=some (.int q1)) (h2:L'.Perm (aQ s1++L0)) (h3:(∃ l,s1={ s with objs:=l,top:=some t1 })) (h4:aB s1 t1 F1) (h5:fB (rows.drop i) q1 t1 F1=some (q',t',F')) (h6:t1≤t+i)
theorem ly {s:OS} {t t' q q':Int} {F F':Fs} {T:FT} {rows:List (Int × d8)} (ok:∀ x∈rows,x.2.Ok) (hr:fB rows q t F=some (q',t',F')) (hL:L.Perm (aQ s++L0)) (hT:∀ q∈hZ T s.x,q∈L0) (r:aB s t F) (ht:t+rows.length≤900) {Q:ad} {X:ac} (kk:∀ s',((∃ l,s'={ s with objs:=l,top:=some t' }))->aB s' t' F'->Q (.int q') (aQ s'++L0)):ae c (n+18) (.ref 194) [.obj T.ft,.list (rows.map wO),.int q] L Q X:=by
 refine ae.norm (rJ λa=>@aa _ _ _ _ _ _ _ _ _ _ 12 ?_).fn
 intro GL
 show[ph bn,exL (aq1 s T L0 rows t t' q' F')]
 intro JJ
 refine Ah ⟨q,t,F,s,rfl,rfl,hL,⟨s.objs,by rw [← r.ok.top]⟩,r,hr,by lia⟩ (Ah (λi x m1 L2 hx J=>?_) λm1 L2 J=>?_)
 ·intro GJ
  obtain ⟨q1,t1,F1,s1,j1,j2,jL,q1',r1,jr,jt⟩:=J
  show[aE q1']
  clear q1'
  intro l1 q2'
  subst q2'
  rw [AE] at hx
  refine an (Option.map_eq_some_iff.mp hx) λx hx2 q1'=>?_
  subst q1'
  clear hx
  have hi:i <rows.length:=by
   rcases Gw i rows.length with h | h
   ·exact h
   ·rw [Bw h] at hx2;cases hx2
  have e:rows.drop i=x::rows.drop (i+1):=by
   rw [DF hi]
   rw [AB hi] at hx2;exact congrArg (·::rows.drop (i+1)) (AH hx2)
  rw [e] at jr
  show[aV j2]
  cases hb:decide (q1 <x.1) with
  | false=>
   show[fE hb]
   have jr:(match decide (q1 <x.1) with | true=>_ | false=>_)=_:=jr
   rw [hb] at jr
   exact ⟨q1,t1,F1,_,j1,j2,jL,⟨_,rfl⟩,r1,jr,by lia⟩
  | true=>
   show[um hb]
   have jr:(match decide (q1 <x.1) with | true=>_ | false=>_)=_:=jr
   rw [hb] at jr
   show[aV j1]
   cases e2:dj F1 t1 x.2 with
   | none=>rw [e2] at jr;cases jr
   | some z=>
    obtain ⟨t2,F2⟩:=z
    rw [e2] at jr
    have b2:=uS e2
    refine ae.use ((yI (ok x (Bc hx2)) jL hT r1 (by lia)).le (lE n 16 17 rfl)) (λv L' w=>?_) λC L' w=>?_
    ·obtain ⟨s2,t3,F3,w1,q1',q2',r2⟩:=w
     subst q1'
     show[aE q2']
     clear q2'
     intro l2 q3'
     subst q3'
     rw [e2] at w1;cases w1
     exact ⟨_,_,_,_,j1,rfl,.refl _,⟨_,rfl⟩,r2,jr,by lia⟩
    ·have w:=w.2.2;rw [e2] at w;cases w
 ·obtain ⟨q1,t1,F1,s1,j1,j2,jL,q1',r1,jr,jt⟩:=J
  show[aE q1']
  clear q1'
  intro l1 q2'
  subst q2'
  rw [Af,Ge] at jr
  cases jr
  show(aV j2,⟨_,.of jL,kk _ ⟨_,rfl⟩ r1⟩)
end
theorem tu:E9 table "dict.update.loop"=some BW.«dict.update.loop»:=by first | exact Em (by kernel_rfl) | exact En (by kernel_rfl)
section
variable {w:World} {A:Around} {K:Type} [DecidableEq K] {knd:KeyKind pw w K}
structure aq2 (knd:KeyKind pw w K) (h₀ h:Heap) (it l d:Addr) (items:Array Ae) (ps:List (K × Ae)) (i:Nat):Prop where
 iter:h.IsListIter it l i
 dict:h.DictOf knd d (merged [] (ps.take i))
 keep:∀ b o,b≠it->b≠d->h₀.get? b=some o->h.get? b=some o
theorem afr {it l d:Addr} {items:Array Ae} {ps:List (K × Ae)} {h₀:Heap} {R:Result->Ad->Prop} (hh:A.handled=none) (hl:h₀.IsList l items) (hz:ps.length=items.size) (hs:ps.length≤100000) (n1:l≠it) (n2:l≠d) (n3:it≠d)
 (pr:∀ (i:Nat) (v:Ae),items[i]?=some v->∃ k key x b m,ps[i]?=some (k,x)∧v=Dw b∧b≠it∧b≠d∧knd.is k key=true∧h₀.get? b=some ⟨.type "tuple",.none,.seq ⟨[key,x]⟩ m,#[]⟩):
 ∀ (j i:Nat) (s:Ad),i+j=ps.length->aq2 knd h₀ s.heap it l d items ps i->(∀ h' tk,h'.DictOf knd d (merged [] ps)->(∀ b o,b≠it->b≠d->h₀.get? b=some o->h'.get? b=some o)->R (.ok (.ret .none)) { s with heap:=h',toks:=tk })->
  Hf (At pw w) A (.builtin "dict.update.loop" ⟨[.ref d,.ref it,G4 i,.none],[]⟩) R s:=by
 intro j
 induction j with
 | zero=>
  intro i s e x k
  show[codeAny_builtin tu]
  rw [ED (id:="dict.update.loop") (by decide+kernel) _]
  unfold BW.«dict.update.loop»
  have hL:s.heap.IsList l items:=let ⟨o,ho,r⟩:=hl;⟨o,x.keep l o n1 n2 ho,r⟩
  refine Ac (GQ hh x.iter hL (by rw [Array.getElem?_eq_none (by lia)]) λh' kp=>?_)
  have dd:=x.dict
  rw [Cc (by lia)] at dd
  show(Ac (An ?_),An (k h' s.toks (dd.extBut kp (Fw n3)) (λb o q1 q2 q=>kp b o q1 (x.keep b o q1 q2 q))))
 | succ j ih=>
  intro i s e x k
  show[codeAny_builtin tu]
  rw [ED (id:="dict.update.loop") (by decide+kernel) _]
  unfold BW.«dict.update.loop»
  have hL:s.heap.IsList l items:=let ⟨o,ho,r⟩:=hl;⟨o,x.keep l o n1 n2 ho,r⟩
  have hi:i <items.size:=by lia
  show[e55 (pr i items[i] (Fq hi)) λkk key xx b mm e1 e2 b1 b2 e3 e4=>?_,Ac (Gr x.iter hL (by rw [Fq hi,e2]) λh' it' sb=>?_)]
  have hb:h'.get? b=some ⟨.type "tuple",.none,.seq ⟨[key,xx]⟩ mm,#[]⟩:=(sb.2 b b1).trans (x.keep b _ b1 b2 e4)
  refine Ac (BF (Ac (wpAny_tryCatch ?_)))
  unfold Builtin.Dict.pairItems
  refine Ac (Db (T:="tuple") ⟨_,hb,rfl⟩ ?_)
  rw [if_pos (by decide)]
  show[Ac (wpAny_seqItems hb rfl ?_),An]
  have hsz:(merged [] (ps.take i)).length≤Dn:=by rw [AQ];exact Ai (merged_length_le [] _) (Ai (BM (C9 _)) (Ai (Dv i ps) (Ai hs (by decide))))
  have dx:h'.DictOf knd d (merged [] (ps.take i)):=x.dict.sameBut sb (Fw n3)
  show[BF (wpAny_dictSet_pairs e3 dx (λh2 d2 sb2=>?_) hsz),An ⟨Eu (by decide+kernel) _,?_⟩]
  refine ih (i+1) _ (by lia) ⟨it'.at λo q=>(sb2.2 it n3).trans q,by rw [merged_take_succ [] ps i (kk,xx) e1];exact d2,λb o q1 q2 q=>(sb2.2 b q2).trans ((sb.2 b q1).trans (x.keep b o q1 q2 q))⟩ k
end
theorem abf:B3 (.type "list") "keys"=pure none:=am_miss_of_fast (by kernel_rfl)
theorem abg {w:World} {A:Around} {E:Ae->Ad->Prop} {s:Ad} {a:Addr} {xs:Array Ae} {k:Nat} {Q:Option Ae->Ad->Prop}
 (hx:s.heap.get? a=some ⟨.type "list",.none,.seq xs k,#[]⟩) (hA:A.handled=none)
 (h:∀ h' tk,(∀ b o,s.heap.get? b=some o->h'.get? b=some o)->Q none { s with heap:=h',toks:=tk }):AF (At pw w) A (getAttr? (.ref a) "keys") Q E s:=by
 obtain ⟨hp,g,d,tk,os⟩:=s
 have hT:∀ tk',(⟨hp,g,d,tk',os⟩:Ad).TypeIs (.ref a) "list":=λO=>⟨_,hx,rfl⟩
 have f1:=sub_AttributeError
 have f3:=PySem.F.slot_list_getattribute.lookup
 have f4:=PySem.F.slot_list_getattribute.bind (.ref a)
 have f5:=am_list_getattr_none
 have hm:=abf
 unfold getAttr? getAttrBy? getAttrBy
 repeat (any_goals (first | assumption | exact hT _ | ((with_reducible show AF _ _ (call (Value.builtin "list.__getattribute__") _ _) _ _ _);refine Gq PySem.F.slot_list_getattribute (hT _) am_entry_list_getattribute (PySem.F.args_list_getattribute_2 _ _) (meets_getattribute_miss_list a xs k #[] "keys" _ hm (by decide+kernel)) ⟨hx,hA,λh' tk' e hx'=>?_⟩) | wp_step))
 refine e20 hx'.there λt' u' he=>?_
 show AF _ _ (H7 _ _ _ _ _ _ _) _ _ _
 unfold H7
 repeat (any_goals (first | assumption | wp_step))
 exact h _ _ hx'.keeps
theorem ic {w:World} {A:Around} {K:Type} [DecidableEq K] {knd:KeyKind pw w K} {E:Ae->Ad->Prop} {s:Ad} {l:Addr} {items:Array Ae} {k:Nat} {ps:List (K × Ae)} {Q:Ae->Ad->Prop} (hh:A.handled=none)
 (hl:s.heap.get? l=some ⟨.type "list",.none,.seq items k,#[]⟩) (hz:ps.length=items.size) (hs:ps.length≤100000) (nd:(ps.map Ar).Nodup)
 (pr:∀ (i:Nat) (v:Ae),items[i]?=some v->∃ k key x b m,ps[i]?=some (k,x)∧v=Dw b∧knd.is k key=true∧s.heap.get? b=some ⟨.type "tuple",.none,.seq ⟨[key,x]⟩ m,#[]⟩)
 (h:∀ h' tk,(∀ b o,s.heap.get? b=some o->h'.get? b=some o)->h'.DictOf knd s.heap.objs.size ps->Q (.ref s.heap.objs.size) { s with heap:=h',toks:=tk }):
 AF (At pw w) A (call (.type "dict") [.ref l]) Q E s:=by
 show[callType_codes (Q₁:=λobj s₁=>obj=.ref s.heap.objs.size∧s₁={ s with heap:=s.heap.push { cls:=.type "dict",data:=.dict #[] } }) PySem.F.kt_called_dict (PySem.F.kt_typeCall_dict_1 _) PySem.F.entry_dict_init (PySem.kt_code_dict_new _ ⟨rfl,rfl⟩)]
 rintro obj s₁ ⟨rfl,rfl⟩
 have hnew:(s.heap.push { cls:=.type "dict",data:=.dict #[] }).DictOf knd s.heap.objs.size []:=EK s.heap
 have kp:∀ b o,s.heap.get? b=some o->(s.heap.push { cls:=.type "dict",data:=.dict #[] }).get? b=some o:=λO O e=>Aj _ e
 refine ⟨hnew.typeIs,PySem.F.args_dict_init_2 _ _,?_⟩
 unfold BW.«dict.__init__»
 show[Ac]
 unfold Builtin.Dict.selfAndRest
 refine Ac (wpAny_notOrdered_dict hnew.typeIs ?_)
 show AF _ _ (pure (s.heap.objs.size,[Dw l])) _ _ _
 show[An]
 show AF _ _ (Gf "dict.__init__" s.heap.objs.size (.ref l) [] .none) _ _ _
 unfold Gf
 refine Ac (Db (T:="list") ⟨_,kp _ _ hl,rfl⟩ ?_)
 rw [if_pos (by decide)]
 refine Ac (abg (kp _ _ hl) hh λh1 tk1 k1=>?_)
 rw [if_pos (by decide)]
 refine Ac (C7 ?_)
 have hl1:h1.get? l=some ⟨.type "list",.none,.seq items k,#[]⟩:=k1 _ _ (kp _ _ hl)
 refine Ac (D9 (items:=items) ⟨_,hl1,rfl,k,rfl⟩ ?_)
 have k2:∀ b o,h1.get? b=some o->(h1.push { cls:=.type "list_iterator",data:=.fields #[.ref l,.int 0 0] }).get? b=some o:=λO O e=>Aj _ e
 have kk:∀ b o,s.heap.get? b=some o->(h1.push { cls:=.type "list_iterator",data:=.fields #[.ref l,.int 0 0] }).get? b=some o:=λb o e=>k2 b o (k1 b o (kp b o e))
 have old:∀ b o,s.heap.get? b=some o->b≠s.heap.objs.size:=λb o e q=>DK _ (q▸AZ e:s.heap.objs.size <s.heap.objs.size)
 have hsz:s.heap.objs.size <h1.objs.size:=by
  show(e31 hnew λo es ep ho O=>?_,AZ (k1 _ _ ho))
 have oldI:∀ b o,s.heap.get? b=some o->b≠h1.objs.size:=λb o e q=>by
  have z:b <s.heap.objs.size:=AZ e
  exact DK _ (IB hsz (q▸z))
 show[An ⟨Eu (by decide+kernel) _,?_⟩,afr (A:=A.in1) (knd:=knd) (ps:=ps) (h₀:=s.heap) (l:=l) (show A.in1.handled=none from hh) ⟨_,hl,rfl,k,rfl⟩ hz hs (oldI _ _ hl) (old _ _ hl) (Gg hsz) (λi v e=>?_) ps.length 0 { s with heap:=h1.push { cls:=.type "list_iterator",data:=.fields #[.ref l,.int 0 0] },toks:=tk1 } (C9 _) ⟨⟨_,Ax _ rfl,rfl,rfl⟩,(hnew.at λo e=>k1 _ _ e).push _,λb o O O e=>kk b o e⟩ λh' tk q1 q2=>?_]
 ·show(e53 (pr i v e) λk0 key x b m a1 a2 a3 a4=>?_,⟨k0,key,x,b,m,a1,a2,oldI _ _ a4,old _ _ a4,a3,a4⟩)
 ·rw [Hy ps nd] at q1
  exact ⟨rfl,h h' tk (λb o e=>q2 b o (oldI b o e) (old b o e) e) q1⟩
theorem aj3 {K:Type} [DecidableEq K] {w:World} {knd:KeyKind pw w K} {f:K->V} {h:Heap} {F:List Addr} (hf:∀ (k:K) (v:Ae),VR h F (f k) v->knd.is k v=true) {fs:List (K × V)}:∀ {us:List Ae},bT h F (fs.map (my f)) us->
 ∃ ps:List (K × Ae),bV h F fs ps∧∀ (i:Nat) (v:Ae),us[i]?=some v->∃ k key x b m,ps[i]?=some (k,x)∧v=Dw b∧knd.is k key=true∧h.get? b=some ⟨.type "tuple",.none,.seq ⟨[key,x]⟩ m,#[]⟩:=by
 induction fs with
 | nil=>intro us x;rw [x.un0];exact ⟨[],.nil,λi v e=>by cases e⟩
 | cons p fs ih=>
  intro us x
  show[fg x.unc λu us e a as=>?_,an (ih as) λps h1 h2=>?_,jC a.inv λvs b m e1 hF hg hs=>?_,fg hs.two λr1 r2 e2 x1 x2=>?_]
  subst e
  refine ⟨(p.1,r2)::ps,.cons x2 h1,λi v e=>?_⟩
  cases i with
  | zero=>exact ⟨p.1,r1,r2,b,m,rfl,(AH e).symm.trans e1,hf _ _ x1,by rw [hg,e2]⟩
  | succ i=>exact h2 i v e
section
variable {c:Cx} {n:Nat} {L:ah} {Q:ad} {X:ac}
theorem afs {fs:List (Str × V)} (hz:fs.length≤100000) (nd:(fs.map Ar).Nodup) (h:∀ a,Q (.obj a) ((a,.dS fs)::L)):ae c n (.type "dict") [.list (fs.map (my .str))] L Q X:=by
 show[.leaf λA s rs hb hf S hv=>?_,an hv.one λr q1' hr=>?_]
 subst q1'
 refine jC hr.inv λvs b k q1' hF hg hs=>?_
 subst q1'
 refine an (aj3 (knd:=strKind pw c.w) (λk v x=>by cases x;simp [Cy,CT]) hs) λps h1 h2=>?_
 have hl:vs.length=fs.length:=by rw [hs.len,Af]
 have kf:ps.map Ar=fs.map Ar:=h1.keys
 refine ic (knd:=strKind pw c.w) hb.handled hg (by rw [h1.len,← hl];rfl) (by rw [h1.len];exact hz) (by rw [kf];exact nd) (λi v e=>h2 i v (by rw [← e];exact List.getElem?_toArray.symm)) λh' tk kp hd=>?_
 obtain ⟨S',ev⟩:=S.new (a:=s.heap.objs.size) (x:=.dS fs) (h':=h') (tk:=tk) kp (λb hb=>by simp [aM] at hb;exact BM hb.symm) (by simp [aM]) ⟨ps,hd,h1.mono ⟨λO O e O O=>kp _ _ e,λb hb=>by
  rw [ar] at hb ⊢
  rcases List.mem_append.mp hb with q | q
  ·exact .inl (Ag _ q)
  ·rcases List.mem_cons.mp q with q | q
   ·exact .inr (q▸aL _)
   ·exact .inl (Aa _ q)⟩⟩
 exact ⟨_,_,h _,S',.obj _,ev⟩
theorem aft {fs:List (Int × V)} (hz:fs.length≤100000) (nd:(fs.map Ar).Nodup) (h:∀ a,Q (.obj a) ((a,.dI fs)::L)):ae c n (.type "dict") [.list (fs.map (my .int))] L Q X:=by
 show[.leaf λA s rs hb hf S hv=>?_,an hv.one λr q1' hr=>?_]
 subst q1'
 refine jC hr.inv λvs b k q1' hF hg hs=>?_
 subst q1'
 refine an (aj3 (knd:=Fz pw c.w) (λk v x=>by cases x;simp [DO,EC]) hs) λps h1 h2=>?_
 have hl:vs.length=fs.length:=by rw [hs.len,Af]
 have kf:ps.map Ar=fs.map Ar:=h1.keys
 refine ic (knd:=Fz pw c.w) hb.handled hg (by rw [h1.len,← hl];rfl) (by rw [h1.len];exact hz) (by rw [kf];exact nd) (λi v e=>h2 i v (by rw [← e];exact List.getElem?_toArray.symm)) λh' tk kp hd=>?_
 obtain ⟨S',ev⟩:=S.new (a:=s.heap.objs.size) (x:=.dI fs) (h':=h') (tk:=tk) kp (λb hb=>by simp [aM] at hb;exact BM hb.symm) (by simp [aM]) ⟨ps,hd,h1.mono ⟨λO O e O O=>kp _ _ e,λb hb=>by
  rw [ar] at hb ⊢
  rcases List.mem_append.mp hb with q | q
  ·exact .inl (Ag _ q)
  ·rcases List.mem_cons.mp q with q | q
   ·exact .inr (q▸aL _)
   ·exact .inl (Aa _ q)⟩⟩
 exact ⟨_,_,h _,S',.obj _,ev⟩
end
theorem yJ {A:Around} {s:Ad} (b:Array UInt8) (t u:Tok):SeqAt.EqAt A s (.bytes b t) (.bytes b u) true:=λprog w E Q h=>by
 unfold eqBool
 show[BF,wpAny_ite_split (λO=>Ac (C7 (An h))) (λO=>?_),Ac (show AF _ A (AU .Eq (.bytes b t) (.bytes b u)) _ E s from PySem.W.eq_bytes ?_)]
 rw [show (b.toList==b.toList)=true by simp]
 exact Ca h
theorem abh {A:Around} {s:Ad}:SeqAt.EqAt A s .none .none true:=λprog w E Q h=>by
 unfold eqBool
 show(BF,wpAny_ite_split (λO=>Ac (C7 (An h))) (λq=>(q rfl).elim))
noncomputable def tv:V->Bool
 | .none=>true
 | .int _=>true
 | .str _=>true
 | .bytes _=>true
 | _=>false
theorem abi {A:Around} {s:Ad} {h h':Heap} {F F':List Addr} {v:V} {r q:Ae} (f:tv v=true) (x:VR h F v r) (y:VR h' F' v q):SeqAt.EqAt A s r q true:=by
 cases x with
 | none=>cases y;exact abh
 | int i t=>cases y with | int _ u=>have:=SeqAt.EqAt.int_int (A:=A) (s:=s) i t i u;rwa [show (i==i)=true by simp] at this
 | str i t=>cases y with | str _ u=>have:=SeqAt.EqAt.str_str (A:=A) (s:=s) i t i u;rwa [show (i==i)=true by simp] at this
 | bytes b t=>cases y with | bytes _ u=>exact yJ _ t u
 | _=>cases f
theorem aio {K:Type} [DecidableEq K] {A:Around} {s:Ad} {h:Heap} {F:List Addr} {gs:List (K × V)} {kb:List (K × Ae)} (y:bV h F gs kb) {fs:List (K × V)} {ka:List (K × Ae)} (z:bV h F fs ka):(∀ p∈fs,tv p.2=true∧getD gs p.1=some p.2)->KeqHits A s kb ka true:=by
 induction z with
 | nil=>exact λO=>.nil
 | @cons x v _ _ _ hv hr ih=>
  intro k
  have z:=y.get x
  rw [(k _ (.head _)).2] at z
  show(an z λrv e1 e2=>?_,KeqHits.hit e1 (abi (k _ (.head _)).1 hv e2) (ih λp hp=>k p (.tail _ hp)))
section
variable {c:Cx} {n:Nat} {L:ah} {Q:ad} {X:ac}
theorem zy {a b:Addr} {fs gs:List (Str × V)} (ha:(a,aj.dS fs)∈c.R++L) (hb:(b,aj.dS gs)∈c.R++L) (hl:fs.length=gs.length) (k:∀ p∈fs,tv p.2=true∧getD gs p.1=some p.2) (h:Q (.bool true) L):bj c n (AU .Eq) (.obj a) (.obj b) L Q X:=
 ⟨λA s r1 r2 hbb O S x1 x2=>by
  obtain ⟨_,rfl⟩:=x1.inv;obtain ⟨_,rfl⟩:=x2.inv
  show[an (S.own _ ha) λka d1 e1=>?_,an (S.own _ hb) λkb d2 e2=>?_,keq_eq (r:=true) (S.notMods (b7 ha)) (S.notMods (b7 hb)) d1 d2 (by have:=hbb.units;lia) (λO=>aio e2 e1 k)]
  rw [e1.len,e2.len,hl,show (gs.length==gs.length&&true)=true by simp]
  exact aN S h (.bool _)⟩
theorem aq3 {a:Addr} {l:List V} (hm:(a,aj.lst l)∈c.R++L) (hz:l.length≤1000000) (h:Q (.int l.length) L):ae c n (.builtin "len") [.obj a] L Q X:=by
 show[.leaf λA s rs hb hf S hv=>?_,an hv.one λr q1' hr=>?_]
 subst q1'
 cases hr
 refine oq (S.own _ hm) λvs k hg hs=>?_
 have e:=hs.len
 exact GP (items:=⟨vs⟩) ⟨_,hg,rfl,_,rfl⟩ (by show (vs.length:Int) <_;lia) (ay S h (by show VR _ _ (.int l.length) (.int vs.length _);rw [← e];exact .int _ _))
theorem aip {ns:List Int} (h:Q (.int ns.sum) L):ae c n (.builtin "sum") [.list (ns.map .int)] L Q X:=by
 show[.leaf λA s rs hb hf S hv=>?_,an hv.one λr q1' hr'=>?_]
 subst q1'
 refine jC hr'.inv λvs b k q1' hF hg hs=>?_
 subst q1'
 have hi:=pb hs
 have el:vs.length=ns.length:=by rw [hs.len,Af]
 have at_:∀ {us:List Ae} {ms:List Int},FC us ms->∀ (i:Nat) (v:Ae),us[i]?=some v->∃ t,v=.int (ms.getD i 0) t:=by
  intro us ms x
  induction x with
  | nil=>intro i v e;cases i <;> cases e
  | cons k t _ ih=>
   intro i v e
   cases i with
   | zero=>cases e;exact ⟨_,rfl⟩
   | succ i=>refine aE (ih i v e) λu q1'=>?_;subst q1';exact ⟨u,rfl⟩
 refine call_sum_walkG (dY (c:=c) hg (show A.in1.handled=none from hb.handled) λI Hh W st hI hfp kp=>⟨I,_,_,_,_,_,λj=>ns.getD j 0,rfl,W,st,hfp,λi v hp=>at_ hi i v hp,λh' tk t' k'=>?_⟩)
 rw [el,e9 ns _ (AL _),BU]
 exact dC (t:=tk) S h (λb o e=>k' b o (λhm=>by rw [List.mem_singleton.mp hm,hI] at e;cases e) (kp b o e)) (.int _ _)
theorem aq4 {k:Int} (h:Q (.int k) L):ae c n (.builtin "max") [.list [.int k]] L Q X:=by
 show[.leaf λA s rs hb hf S hv=>?_,an hv.one λr q1' hr'=>?_]
 subst q1'
 refine jC hr'.inv λvs b kk q1' hF hg hs=>?_
 subst q1'
 cases hs with
 | cons x1 x2=>
 refine aE x1.inv λt q1'=>?_
 subst q1'
 cases x2
 refine call_max_walk (dY (c:=c) hg (show A.in1.handled=none from hb.handled) λI Hh W st hI hfp kp=>⟨I,_,_,_,_,_,λO O=>false,rfl,W,st,hfp,Nat.zero_lt_one,λi j vi vj s' Q' E' hi hj hq=>?_,λv h' tk hv k'=>?_⟩)
 ·have at0:∀ (i:Nat) (v:Ae),[Value.int k t][i]?=some v->v=.int k t:=λi v e=>by
   cases i with
   | zero=>cases e;rfl
   | succ i=>cases e
  rw [at0 i vi hi,at0 j vj hj]
  show AF _ _ (AU .Gt _ _) Q' E' s'
  show[P.gt_int]
  rw [show decide (k>k)=false by simp]
  exact hq
 ·have hv:[Value.int k t][0]?=some v:=hv
  cases hv
  exact dC (t:=tk) S h (λb o e=>k' b o (λhm=>by rw [List.mem_singleton.mp hm,hI] at e;cases e) (kp b o e)) (.int _ _)
end
structure It where
 p:Option (_root_.Fin 4)
 n:Int
 par:Int
 y:Addr
 d:Addr
 z:Zn
noncomputable def bJ:Option (_root_.Fin 4)->Str
 | none=>Ab "/"
 | some p=>pS p
noncomputable def itV (i:It):V:=.tup [.str (bJ i.p),.int i.n,.int i.par,.obj i.y]
noncomputable def itC (i:It):Addr × aj:=(i.y,.inst 640 i.d (eO i.z))
noncomputable def wP (F:Fs) (i:It):Prop:=
 match i.p with
 | none=>i.n=2∧i.z.sort=1∧i.z.mode=0
 | some p=>F.pt p=some i.n∧if p=3 then i.z.sort=1∧i.z.mode=493 else i.z.sort=(F.nd i.n).th.sort∧i.z.mode=(F.nd i.n).mode∧i.z.size=(F.nd i.n).th.bs.length
inductive Bel (F:Fs) (ps:List (Option (_root_.Fin 4))) (L:ah) (v:V) (L':ah):Prop
 | mk (its:List It) (h0:v=.list (its.map itV)) (h1:L'.Perm (its.map itC++L)) (h2:its.map It.p=ps) (h3:∀ i∈its,wP F i)
theorem afv {α β:Type} {f:α->β} {l l':List β} (h:l.Perm l'):∀ {q:List α},l'=q.map f->∃ q':List α,q'.Perm q∧l=q'.map f:=by
 induction h with
 | nil=>intro q e;cases q with | nil=>exact ⟨[],.nil,rfl⟩ | cons _ _=>cases e
 | cons x _ ih=>
  intro q e
  cases q with
  | nil=>cases e
  | cons a q=>
   cases e
   show(an (ih rfl) λq' h1 h2=>?_,⟨a::q',h1.cons _,by rw [h2];rfl⟩)
 | swap x y l=>
  intro q e
  cases q with
  | nil=>cases e
  | cons a q=>
  cases q with
  | nil=>cases e
  | cons b q=>cases e;exact ⟨b::a::q,.swap _ _ _,rfl⟩
 | trans _ _ ih1 ih2=>
  intro q e
  show(an (ih2 e) λq' h1 h2=>?_,an (ih1 h2) λq'' h3 h4=>?_,⟨q'',h3.trans h1,h4⟩)
noncomputable def yK (F:Fs) (p:_root_.Fin 4):bP:=(dp p,enc F p ((F.pt p).getD 0))
theorem wQ (F:Fs):∀ ps:List (_root_.Fin 4),bY F ps=(ps.filter λp=>(F.pt p).isSome).map (yK F)
 | []=>rfl
 | p::ps=>by
  have ih:=wQ F ps
  unfold bY at ih ⊢
  rw [AO,AM]
  cases e:F.pt p with
  | none=>exact ih
  | some n=>
   show _::_=_
   rw [ih]
   show _=yK F p::_
   unfold yK;rw [e];rfl
theorem zA {a:Addr} {c:aj}:∀ {L:ah},(a,c)∈L->∃ L1,bW L a c L1
 | p::L,h=>by
  cases h with
  | head=>exact ⟨L,.here⟩
  | tail _ h=>refine aE (zA h) λL1 x=>?_;exact ⟨p::L1,.there x⟩
theorem gf {a:Addr} {c:aj} {L M:ah} (h:L.Perm ((a,c)::M)):∃ L1,bW L a c L1∧L1.Perm M:=by
 show(aE (zA (h.mem_iff.mpr (.head _))) λL1 x=>?_,⟨L1,x,(x.perm.symm.trans h).cons_inv⟩)
section
variable {c:Cx} {n:Nat} {L:ah}
theorem yL {s:OS} {v vd:Addr} {k l i mm:Int} {fn:FN} (hm:∀ p∈aQ s,p∈c.R++L) (hv:(v,aj.inst 797 vd (wF s.x))∈c.R++L) (h:bq s k fn l) (hi:i=0) (hmm:mm=fn.th.bs.length):ae c (n+7) (.ref 754) [.obj v,.int k,.int i,.int mm] L (λu L'=>L'=L∧u=.bytes fn.th.bs) (λO O=>False):=by
 refine yT h.ob λo z ho oo O hb zk O O O hz hc=>?_
 have hl:=h.len
 refine ae.norm (iM λa=>@aa _ _ _ _ _ _ _ _ _ _ 12 ?_).fn
 intro GL
 show[cQ (by lia),cQ (by lia)]
 subst hi hmm
 show[aI (by exact hv) rfl rfl,aK (by exact hm) ⟨⟨o,ho,oo,hb⟩,zk⟩ λy d=>?_,aI (Aa _ (.head _)) rfl rfl,aI (by exact bC hv) rfl rfl,aU (.inst (by exact bC (hm _ (.head _))) rfl rfl rfl),xZ,aaf]
 have e:max 0 (min (fn.th.bs.length:Int) (z.size - 0))=(fn.th.bs.length:Int):=by rw [hz,Int.sub_zero,Int.min_self];exact Cf (Av _)
 rw [e]
 refine (yx (by exact λp hp=>bC (hm p hp)) ho oo (by decide) (Av _) (by lia) ?_).le (lE n 2 6 rfl)
 rw [AX,qY hc]
 exact ⟨L,.tail,rfl,rfl⟩
theorem mM {s:OS} {t:Int} {F:Fs} {v vd:Addr} {p:_root_.Fin 4} {k par:Int} (hm:∀ p∈aQ s,p∈c.R++L) (hv:(v,aj.inst 797 vd (wF s.x))∈c.R++L) (r:aB s t F) (p3:p≠3) (hp:F.pt p=some k):
 ae c (n+7) (.ref 780) [.obj v,.str (pS p),.int k,.int par] L (Bel F [some p] L) (λO O=>False):=by
 show[dR (r.file p k p3 hp) λO O fo=>?_,yT fo.zn2 λo z ho oo ob hb zk z1 z2 z3 z4 z5=>?_,ae.norm (ae.freeze (dU λa=>@aa _ _ _ _ _ _ _ _ _ _ 12 ?_).fn)]
 intro GL
 show[aI (by exact hv) rfl rfl,aK (by exact hm) ⟨⟨o,ho,oo,hb⟩,zk⟩ λy d=>?_,λa=>?_,aI (Aa _ (.tail _ (.head _))) rfl rfl,cQ (by rw [z3];exact gU _)]
 exact .inr ⟨a,_,_,rfl,.here,_,.rfl,⟨[⟨some p,k,par,y,d,z⟩],rfl,.refl _,rfl,λi hi=>by
  rw [List.mem_singleton.mp hi];exact ⟨hp,by rw [if_neg p3];exact ⟨z3,z2,z4⟩⟩⟩⟩
theorem oB {N:Nat} {s:OS} {F:Fs} {P0:Option (_root_.Fin 4)} {b:Bool} {v vd:Addr} {k par mo li:Int} {rows:List bP} {ps:List (_root_.Fin 4)} {blk:_root_.Fin 4->List (Option (_root_.Fin 4))}
 (hm:∀ p∈aQ s,p∈c.R++L) (hv:(v,aj.inst 797 vd (wF s.x))∈c.R++L) (da:aT s k rows mo li) (hr:rows.Perm (bY F ps)) (hz:ps.length≤4)
 (hit:∀ z:Zn,∀ y d,z.sort=1->z.mode=mo->wP F ⟨P0,k,par,y,d,z⟩) (hb:(!decide (bJ P0=Ab "/"))=b) (hS:∀ p∈ps,(b=true->bJ P0++Ab "/"++dp p=pS p)∧(b=false->Ab "/"++dp p=pS p))
 (hbz:(bJ P0).length≤10) (hbl:∀ p,(blk p).length≤5)
 (sub:∀ (c:Cx) (L:ah),(∀ p∈aQ s,p∈c.R++L)->(v,aj.inst 797 vd (wF s.x))∈c.R++L->∀ p∈ps,∀ m,F.pt p=some m->ae c (n+8+N) (.ref 780) [.obj v,.str (pS p),.int m,.int k] L (Bel F (blk p) L) (λO O=>False)):
 ae c (n+9+N) (.ref 780) [.obj v,.str (bJ P0),.int k,.int par] L (λu L'=>∃ qs:List (_root_.Fin 4),qs.Perm (ps.filter λp=>(F.pt p).isSome)∧Bel F (P0::qs.flatMap blk) L u L') (λO O=>False):=by
 refine sC da.zn λz zn z1 z2 z3=>?_
 have bz:bJ P0=bJ P0:=rfl
 rw [show n+9+N=(n+N)+8+1 from CJ n 9 N]
 refine ae.norm (ae.freeze (dU λa=>@aa _ _ _ _ _ _ _ _ _ _ 12 ?_).fn)
 intro GL
 show[aI (by exact hv) rfl rfl,(aK (by exact hm) zn λy d=>?_).le (lE (n+N) 6 8 rfl),λx=>?_,aI (Aa _ (.tail _ (.head _))) rfl rfl,d0 z1]
 have hm2:∀ M:ah,∀ p∈aQ s,p∈c.R++(M++L):=λM p hp=>(List.mem_append.mp (hm p hp)).elim (Ag _) λq=>Aa _ (Aa _ q)
 have hv2:∀ M:ah,(v,aj.inst 797 vd (wF s.x))∈c.R++(M++L):=λM=>(List.mem_append.mp hv).elim (Ag _) λq=>Aa _ (Aa _ q)
 show[aI (by exact hv2 [_,_]) rfl rfl,aa8 (by exact hm2 [_,_]) da.zap λrows' hp=>?_,an (afv (hp.trans hr) (wQ F ps)) λqs hq q1'=>?_]
 subst q1'
 have hql:qs.length≤4:=by rw [hq.length_eq];exact Ai (BZ _ _) hz
 show[ph bn]
 refine exL (λi m1 L1=>∃ its:List It,m1.lookup ("self":Str)=some (.obj v)∧m1.lookup ("path":Str)=some (.str (bJ P0))∧m1.lookup ("number":Str)=some (.int k)∧m1.lookup ("found":Str)=some (.obj x)∧
  L1.Perm ((x,aj.lst (its.map itV))::(its.map itC++L))∧its.map It.p=P0::(qs.take i).flatMap blk∧(∀ i∈its,wP F i)∧its.length≤1+i * 5) ?_
 intro JJ
 refine Ah ⟨[⟨P0,k,par,y,d,z⟩],rfl,rfl,rfl,rfl,.refl _,by rw [Fh];rfl,λi hi=>by rw [List.mem_singleton.mp hi];exact hit z y d z1 z2,AL _⟩ (Ah (λi r m1 L2 hx J=>?_) λm1 L2 J=>?_)
 ·intro GJ
  refine e17 J λits j1 j2 j3 j4 jL j5 j6 j7=>?_
  rw [AE] at hx
  refine an (Option.map_eq_some_iff.mp hx) λlJ hx2 q1'=>?_
  subst q1'
  rw [AE] at hx2
  refine an (Option.map_eq_some_iff.mp hx2) λp hx3 q1'=>?_
  subst q1'
  have hpq:p∈ps.filter λp=>(F.pt p).isSome:=hq.mem_iff.mp (Bc hx3)
  show[bS (List.mem_filter.mp hpq) λhpp hsm=>?_,aE (Option.isSome_iff_exists.mp hsm) λm hpm=>?_]
  have e1:(yK F p).2 / 4=m:=by show enc F p ((F.pt p).getD 0) / 4=m;rw [hpm];exact (pz F p m).1
  have hi:i <qs.length:=by
   rcases Gw i qs.length with h | h
   ·exact h
   ·rw [Bw h] at hx3;cases hx3
  rw [show aqt (yK F p)=.tup [.str (dp p),.int ((yK F p).2 / 4),.int ((yK F p).2 % 4)] from rfl,e1]
  have hx0:(x,aj.lst (its.map itV))∈L2:=jL.mem_iff.mpr (.head _)
  have mm:∀ q∈L,q∈L2:=λq h=>jL.mem_iff.mpr (.tail _ (Aa _ h))
  have hm3:∀ q∈aQ s,q∈c.R++L2:=λq h=>(List.mem_append.mp (hm q h)).elim (Ag _) λw=>Aa _ (mm q w)
  have hv3:(v,aj.inst 797 vd (wF s.x))∈c.R++L2:=(List.mem_append.mp hv).elim (Ag _) λw=>Aa _ (mm _ w)
  show[aV j4,aU (.lExt (Aa _ hx0)),aV j1,aU (.inst (by exact hv3) rfl rfl rfl),aV j2]
  have hn:=qW p
  have end_:∀ u L3,Bel F (blk p) L2 u L3->ae (cxF c cZ a) (n+N+8) (.builtin "list.extend") [.obj x,u] L3 (λO L'=>∃ its:List It,m1.lookup ("self":Str)=some (.obj v)∧m1.lookup ("path":Str)=some (.str (bJ P0))∧m1.lookup ("number":Str)=some (.int k)∧m1.lookup ("found":Str)=some (.obj x)∧
   L'.Perm ((x,aj.lst (its.map itV))::(its.map itC++L))∧its.map It.p=P0::(qs.take (i+1)).flatMap blk∧(∀ i∈its,wP F i)∧its.length≤1+(i+1) * 5) (λO O=>False):=λu L3 q=>by
   obtain ⟨its2,q1',q2,q3,q4⟩:=q
   subst q1'
   have pl:L3.Perm ((x,aj.lst (its.map itV))::(its2.map itC++(its.map itC++L))):=q2.trans ((jL.append_left _).trans AC)
   have l2:its2.length≤5:=by have:=congrArg FD q3;rw [Af] at this;rw [this];exact hbl p
   refine ae.pre pl (ads .here (by rw [Af,Af];lia) ⟨its++its2,j1,j2,j3,j4,?_,?_,λw hw=>(List.mem_append.mp hw).elim (j6 w) (q4 w),by rw [As];lia⟩)
   ·rw [AT,AT]
    show[AG _]
    rw [← Aq]
    exact List.perm_append_comm.append_right L
   ·rw [AT,j5,q3,BE,hx3,Bx]
    show _=P0::(_++(blk p++[]))
    rw [A6];rfl
  have SUB:=sub (cxF c cZ a) L2 (by exact hm3) (by exact hv3) p hpp m hpm
  have hnl:(dp p).length≤8:=hn
  cases b with
  | true=>
   show[um hb,aV j2,kZ (by show _+1≤_;lia),kZ (by rw [Str.length_append];show _+1+_≤_;lia)]
   rw [(hS p hpp).1 rfl]
   show(aV j3,(SUB.le (BM (CJ n 8 N))).use0 λu L3 q=>ae.use (end_ u L3 q) (λO O r=>by refine e14 r λits k1 k2 k3 k4 k5=>?_;exact ⟨its,k1,k2,k3,k4,k5⟩) λO O z=>z.elim)
  | false=>
   show[fE hb,kZ (by show 1+_≤_;lia)]
   rw [(hS p hpp).2 rfl]
   show(aV j3,(SUB.le (BM (CJ n 8 N))).use0 λu L3 q=>ae.use (end_ u L3 q) (λO O r=>by refine e14 r λits k1 k2 k3 k4 k5=>?_;exact ⟨its,k1,k2,k3,k4,k5⟩) λO O z=>z.elim)
 ·show[e17 J λits j1 j2 j3 j4 jL j5 j6 j7=>?_,aV j4]
  have e5:its.map It.p=P0::qs.flatMap blk:=by rw [j5,Af,Af,BU]
  show(an (gf jL) λM pk pm=>?_,.inr ⟨x,_,M,rfl,pk,_,.of pm,qs,hq,its,rfl,.refl _,e5,j6⟩)
end
noncomputable def lz (f:_root_.Fin 4->Bool) (p:_root_.Fin 4):List (_root_.Fin 4):=if p=3 then 3::(if f 2 then [2] else []) else [p]
theorem air:∀ f:_root_.Fin 4->Bool,(f 3=false->f 2=false)->((([0,1,3]:List (_root_.Fin 4)).filter f).flatMap (lz f)).Nodup∧((([0,1,3]:List (_root_.Fin 4)).filter f).flatMap (lz f)).length≤4∧∀ p,p∈(([0,1,3]:List (_root_.Fin 4)).filter f).flatMap (lz f)↔f p=true:=by
 intro f h
 unfold lz
 cases e0:f 0 <;> cases e1:f 1 <;> cases e2:f 2 <;> cases e3:f 3 <;> first
  | exact absurd (e2.symm.trans (h e3)) (by decide)
  | (simp only [AM,Je,e0,e1,e2,e3,if_true,C8,if_false];refine ⟨by decide,by decide,iA ?_ ?_ ?_ ?_⟩ <;> simp [e0,e1,e2,e3])
theorem ais (f:_root_.Fin 4->Bool) (p:_root_.Fin 4):((lz f p).map some).length≤5:=by
 rw [Af];unfold lz;split
 ·split <;> decide
 ·show 1≤5;decide
noncomputable def wR:Th->V
 | .oct b=>.bytes b
 | .lnk q=>.str (pS q)
noncomputable def cO (F:Fs):Option (_root_.Fin 4)->V
 | none=>.none
 | some p=>if p=3 then .none else match F.pt p with
  | none=>.none
  | some n=>wR (F.nd n).th
noncomputable def cE (F:Fs) (o:Option (_root_.Fin 4)):Str × V:=(bJ o,cO F o)
theorem wT {K:Type} [DecidableEq K] {fs:List (K × V)} {k:K} {v:V} (h:k∉fs.map Ar):l9 fs k v=fs++[(k,v)]:=by
 unfold l9
 show(if_neg λq=>?_,an (List.any_eq_true.mp q) λp hp e=>?_,h (of_decide_eq_true e▸AN (f:=Ar) hp))
theorem zB:∀ p q:_root_.Fin 4,pS p=pS q->p=q:=by decide+kernel
theorem uT:∀ p:_root_.Fin 4,pS p≠Ab "/":=by decide+kernel
theorem rj {o q:Option (_root_.Fin 4)} (h:bJ o=bJ q):o=q:=by
 cases o with
 | none=>cases q with
  | none=>rfl
  | some q=>exact absurd h.symm (uT q)
 | some p=>cases q with
  | none=>exact absurd h (uT p)
  | some q=>exact congrArg some (zB p q h)
noncomputable def xm (F:Fs) (p:_root_.Fin 4):Bool:=(F.pt p).isSome
section
variable {c:Cx} {n:Nat} {L:ah}
theorem uU {s:OS} {t:Int} {F:Fs} {v vd:Addr} {k par:Int} (hm:∀ p∈aQ s,p∈c.R++L) (hv:(v,aj.inst 797 vd (wF s.x))∈c.R++L) (r:aB s t F) (hk:F.pt 3=some k):
 ae c (n+9) (.ref 780) [.obj v,.str (pS 3),.int k,.int par] L (Bel F ((lz (xm F) 3).map some) L) (λO O=>False):=by
 obtain ⟨_,rows,hr,da⟩:=r.fold k hk
 refine ae.use0 (oB (N:=0) (P0:=some 3) (b:=true) (blk:=λp=>[some p]) (par:=par) hm hv da hr (by decide) (λz y d h1 h2=>⟨hk,by rw [if_pos rfl];exact ⟨h1,h2⟩⟩) rfl (λp hp=>⟨λO=>by rw [List.mem_singleton.mp hp];rfl,λh=>by cases h⟩) (by decide) (λO=>by show 1≤5;decide)
  λc L hm hv p hp m hpm=>(mM hm hv r (by rw [List.mem_singleton.mp hp];decide) hpm).le (show n+7≤n+8+0 by lia)) λu L' q=>?_
 refine an q λqs hq B=>?_
 have e:some 3::qs.flatMap (λp=>[some p])=(lz (xm F) 3).map some:=by
  unfold lz xm
  rw [if_pos rfl]
  cases e2:F.pt 2 with
  | none=>
   rw [AM,e2] at hq
   rw [List.perm_nil.mp hq];rfl
  | some m=>
   rw [AM,e2] at hq
   rw [List.perm_singleton.mp hq];rfl
 rw [← e];exact B
theorem oD {s:OS} {t:Int} {F:Fs} {v vd:Addr} (hm:∀ p∈aQ s,p∈c.R++L) (hv:(v,aj.inst 797 vd (wF s.x))∈c.R++L) (r:aB s t F):
 ae c (n+11) (.ref 787) [.obj v] L (λu L'=>∃ ps:List (_root_.Fin 4),ps.Nodup∧ps.length≤4∧(∀ p,p∈ps↔xm F p=true)∧Bel F (none::ps.map some) L u L') (λO O=>False):=by
 show[an r.root λrows hr da=>?_,(fL λa=>@aa _ _ _ _ _ _ _ _ _ _ 12 ?_).fn]
 intro GL
 show[aU (.inst (by exact hv) rfl rfl rfl),aI (by exact hv) rfl rfl,aI (by exact hv) rfl rfl]
 refine ae.use0 (oB (n:=n) (N:=1) (P0:=none) (b:=false) (blk:=λp=>(lz (xm F) p).map some) (par:=2) hm hv da hr (by decide) (λz y d h1 h2=>⟨rfl,h1,h2⟩) rfl
  (λp hp=>⟨λh=>(by cases h),λO=>by revert p;exact iA (λO=>rfl) (λO=>rfl) (λh=>absurd h (by decide)) (λO=>rfl)⟩) (by decide) (λp=>ais _ _)
  λc L hm hv p hp m hpm=>?_) λu L' q=>?_
 ·by_cases p3:p=3
  ·subst p3
   exact uU hm hv r hpm
  ·have e:(lz (xm F) p).map some=[some p]:=by unfold lz;rw [if_neg p3];rfl
   rw [e]
   exact (mM hm hv r p3 hpm).le (show n+7≤n+8+1 by lia)
 ·refine an q λqs hq B=>?_
  have hp:(qs.flatMap (lz (xm F))).Perm ((([0,1,3]:List (_root_.Fin 4)).filter (xm F)).flatMap (lz (xm F))):=hq.flatMap_right _
  obtain ⟨a1,a3,a2⟩:=air (xm F) (λh=>by
   unfold xm at h ⊢
   cases e:F.pt 3 with
   | none=>rw [r.nofo e];rfl
   | some m=>rw [e] at h;cases h)
  refine ⟨qs.flatMap (lz (xm F)),hp.nodup_iff.mpr a1,by rw [hp.length_eq];exact a3,λp=>hp.mem_iff.trans (a2 p),?_⟩
  rw [List.map_flatMap];exact B
theorem yM {s:OS} {t:Int} {F:Fs} {v vd:Addr} (hm:∀ p∈aQ s,p∈c.R++L) (hv:(v,aj.inst 797 vd (wF s.x))∈c.R++L) (r:aB s t F) {Q:ad} {X:ac} (kk:∀ (ps:List (_root_.Fin 4)) (x:Addr),ps.Nodup->((∀ p,p∈ps↔xm F p=true))->Q (.obj x) ((x,aj.dS ((none::ps.map some).map (cE F)))::L)):ae c (n+12) (.ref 794) [.obj v] L Q X:=by
 refine ae.norm (gy λa=>@aa _ _ _ _ _ _ _ _ _ _ 12 ?_).fn
 intro GL
 show[xk λx=>?_,aU (.inst (by exact bC hv) rfl rfl rfl),(oD (by exact λp hp=>bC (hm p hp)) (by exact bC hv) r).useL]
 intro QL u L1 q
 refine sC q λps nd pl5 hps B=>?_
 obtain ⟨its,q1',pl,e1,ok⟩:=B
 subst q1'
 have len:its.length=ps.length+1:=by have:=congrArg FD e1;rw [Af,AJ,Af] at this;exact this
 have nds:(none::ps.map some).Nodup:=List.nodup_cons.mpr ⟨λh=>(by refine an (List.mem_map.mp h) λO O q=>?_;cases q),List.pairwise_map.mpr (nd.imp λh e=>h (AH e))⟩
 show[ph bn]
 refine exL (λi m1 L1=>m1.lookup ("self":Str)=some (.obj v)∧m1.lookup ("found":Str)=some (.obj x)∧
  L1.Perm ((x,aj.dS (((none::ps.map some).take i).map (cE F)))::(its.map itC++L))) ?_
 intro JJ
 refine Ah ⟨rfl,rfl,pl.trans AC⟩ (Ah (λi r0 m1 L2 hx J=>?_) λm1 L2 J=>?_)
 ·intro GJ
  refine dR J λj1 j2 jL=>?_
  rw [AE] at hx
  refine an (Option.map_eq_some_iff.mp hx) λit hx2 q1'=>?_
  subst q1'
  have hit:=Bc hx2
  have hok:=ok it hit
  have ep:(none::ps.map some)[i]?=some it.p:=by rw [← e1,AE,hx2];rfl
  have hi:i <(none::ps.map some).length:=by
   rcases Gw i (none::ps.map some).length with h | h
   ·exact h
   ·rw [Bw h] at ep;cases ep
  have hcell:(it.y,aj.inst 640 it.d (eO it.z))∈L2:=jL.mem_iff.mpr (.tail _ (Ag _ (AN (f:=itC) hit)))
  have mm:∀ q∈L,q∈L2:=λq h=>jL.mem_iff.mpr (.tail _ (Aa _ h))
  have hm3:∀ q∈aQ s,q∈c.R++L2:=λq h=>(List.mem_append.mp (hm q h)).elim (Ag _) λw=>Aa _ (mm q w)
  have hv3:(v,aj.inst 797 vd (wF s.x))∈c.R++L2:=(List.mem_append.mp hv).elim (Ag _) λw=>Aa _ (mm _ w)
  refine an (gf jL) λM pk pm=>?_
  have st:∀ (X:ac) (N:ah->Prop),(∀ L3:ah,L3.Perm ((x,aj.dS (((none::ps.map some).take (i+1)).map (cE F)))::(its.map itC++L))->N L3)->g8 (cxF c cq a) (n+11) (.obj x) (.str (bJ it.p)) (cO F it.p) L2 N X:=λX N hN=>by
   refine ac6 pk (by rw [Af];exact Ai (Dv ..) (by rw [AJ,Af];exact Ai (BD pl5) (by decide))) (hN _ ?_)
   have nn:bJ it.p∉(((none::ps.map some).take i).map (cE F)).map Ar:=λh=>by
    rw [Aw] at h
    refine an (List.mem_map.mp h) λo ho e=>?_
    have e:=rj (show bJ o=bJ it.p from e)
    subst e
    have hd:it.p∈(none::ps.map some).drop i:=Bc (i:=0) (by rw [Dc,Nat.add_zero];exact ep)
    exact (List.nodup_append.mp (by rw [Bg];exact nds)).2.2 _ ho _ hd rfl
   rw [wT nn,BE,ep,AT]
   exact pm.cons _
  have fin:∀ {m2:Loc} {X:ac} {w:V} {pp:Option (_root_.Fin 4)},it.p=pp->cO F it.p=w->m2.lookup ("self":Str)=some (.obj v)->m2.lookup ("found":Str)=some (.obj x)->g8 (cxF c cq a) (n+11) (.obj x) (.str (bJ pp)) w L2 (λL3=>m2.lookup ("self":Str)=some (.obj v)∧m2.lookup ("found":Str)=some (.obj x)∧L3.Perm ((x,aj.dS (((none::ps.map some).take (i+1)).map (cE F)))::(its.map itC++L))) X:=λe0 e a1 a2=>e0▸e▸st _ _ λL3 h=>⟨a1,a2,h⟩
  clear st
  show[aI (Aa _ hcell) rfl rfl]
  rcases hp:it.p with _ | p
  ·unfold wP at hok
   rw [hp] at hok
   show(dR hok λO z1 O=>?_,cQ (by rw [z1];decide),aI (Aa _ hcell) rfl rfl,d0 z1,aV j2,fin (w:=.none) hp (by rw [hp];exact rfl) j1 j2)
  ·unfold wP at hok
   rw [hp] at hok
   refine bS hok λk1 k2=>?_
   by_cases p3:p=3
   ·rw [if_pos p3] at k2
    show(cQ (by rw [k2.1];decide),aI (Aa _ hcell) rfl rfl,d0 k2.1,aV j2,fin (w:=.none) hp (by rw [hp];show (if p=3 then _ else _)=_;rw [if_pos p3]) j1 j2)
   ·rw [if_neg p3] at k2
    show[dR k2 λz1 O z3=>?_,dR (r.file p _ p3 k1) λO O fo=>?_]
    have co:cO F it.p=wR (F.nd it.n).th:=by rw [hp];show (if p=3 then _ else _)=_;rw [if_neg p3,k1]
    cases et:(F.nd it.n).th with
    | oct bs=>
     rw [et] at z1 z3
     show(d0 z1,aV j1,aU (.inst (by exact hv3) rfl rfl rfl),aI (Aa _ hcell) rfl rfl,((yL (by exact hm3) (by exact hv3) fo rfl (by rw [et];exact z3)).le (lE n 7 11 rfl)).val,aV j2,fin hp (by rw [co,et];exact rfl) j1 j2)
    | lnk q=>
     rw [et] at z1
     show(cQ (by rw [z1];show ¬ (2:Int)=0;decide),aI (Aa _ hcell) rfl rfl,cQ (by rw [z1];show ¬ (2:Int)=1;decide),aV j1,aI (by exact hv3) rfl rfl,(ku (by exact hm3) fo et ?_).le (lE n 7 11 rfl),aV j2,fin hp (by rw [co,et];exact rfl) j1 j2)
 ·show[dR J λj1 j2 jL=>?_,aV j2]
  rw [Af,len,Cc (by rw [AJ,Af];lia)] at jL
  exact ⟨_,⟨its.map itC,jL.trans List.perm_middle.symm⟩,kk ps x nd hps⟩
end
section
variable {c:Cx} {n:Nat} {L L0:ah}
theorem yN {s:OS} (hL:L.Perm (aQ s++L0)) (h0:s.objs=[]) {Q:ad} {X:ac} (kk:Q (.list []) (aQ s++L0)):ae c (n+1) (.ref 1512) [.obj s.x] L Q X:=by
 have hm:=ci (c:=c) hL
 refine (gF λa=>@aa _ _ _ _ _ _ _ _ _ _ 12 ?_).fn
 intro GL
 show[aI (by exact hm _ (.head _)) rfl rfl,xk,Ah rfl,ph bn,sr (λv=>some v) (by show 0≤_;lia) (λC D o v hv=>by cases hv),Am (aQ s) (Am L0 (Ah hL ?_)),aI (Ag _ (Aa _ (.head _))) rfl rfl,ph (sT (es:=xl s.objs) (Aa _ (.tail _ (.tail _ (.head _))))),sr (λv=>some v) (by rw [h0];show 0≤_;lia) (λC D o v hv=>by rw [h0] at hv;cases hv),uh (by rw [h0];show 0+0≤_;lia)]
 rw [h0]
 refine uy (rows:=[]) (by decide) λrows' hp=>?_
 rw [List.perm_nil.mp hp]
 exact kk
theorem wU {s:OS} (hL:L.Perm (aQ s++L0)) (h0:s.objs=[]) (ht:s.top=none) {Q:ad} {X:ac} (kk:Q (.int 0) (aQ { s with top:=some 0 }++L0)):ae c (n+2) (.ref 1567) [.obj s.x] L Q X:=by
 have hm:=ci (c:=c) hL
 refine (cS λa=>@aa _ _ _ _ _ _ _ _ _ _ 12 ?_).fn
 intro GL
 show(aI (by exact hm _ (.head _)) rfl rfl,um (by rw [ht];rfl),aU (.inst (by exact hm _ (.head _)) rfl rfl rfl),yN hL h0,uh (by show 1+0≤_;lia),aq4,ak .here rfl,aI (Aa _ (.head _)) rfl rfl,kk)
theorem ok0 {s:OS} (h0:s.objs=[]):cK { s with top:=some 0 } 0:=⟨rfl,BG _,by decide,by show (s.objs.length:Int)≤0;rw [h0];decide,λk o h=>(by have h:ba s.objs k=some o:=h;rw [h0] at h;cases h),λk o h=>(by have h:ba s.objs k=some o:=h;rw [h0] at h;cases h)⟩
theorem ait {s:OS} {kind block:Int} (hL:L.Perm (aQ s++L0)) (h0:s.objs=[]) (ht:s.top=none) (k0:0 <kind) (k1:kind <18) (b0:0 <block) (b1:block≤128) {Q:ad} {X:ac} (kk:∀ s' o,Add { s with top:=some 0 } s' 1 o block []->Q (.int 1) (aQ s'++L0)):ae c (n+5) (.ref 1560) [.obj s.x,.int kind,.int block] L Q X:=by
 have hm:=ci (c:=c) hL
 have hb:([]:List UInt8).length≤32:=by decide
 refine (eD λa=>@aa _ _ _ _ _ _ _ _ _ _ 12 ?_).fn
 intro GL
 show[aU (.inst (by exact hm _ (.head _)) rfl rfl rfl),aU (.inst (by exact hm _ (.head _)) rfl rfl rfl),(wU hL h0 ht ?_).le (lE n 2 4 rfl),qV (s:={ s with top:=some 0 }) (k:=1) (.refl _) (ok0 h0) (by decide) rfl (ok0 h0).fresh k0 k1 b0 b1 hb λs' o u=>?_]
 have e:=u.eq
 subst e
 show(aI (Aa _ (.head _)) rfl rfl,kk _ o u)
theorem yO {s:OS} {kind:Int} (hL:L.Perm (aQ s++L0)) (h0:s.objs=[]) (ht:s.top=none) (k0:0 <kind) (k1:kind <18) {Q:ad} {X:ac} (kk:∀ s',fZ { s with top:=some 0 } s' 1 (·=1)->bE s' 1 []->Q (.int 1) (aQ s'++L0)):ae c (n+7) (.ref 518) [.obj s.x,.int kind] L Q X:=by
 have hm:=ci (c:=c) hL
 refine (lR λa=>@aa _ _ _ _ _ _ _ _ _ _ 12 ?_).fn
 intro GL
 show[aI (by exact hm _ (.head _)) rfl rfl,aI (by exact hm _ (.tail _ (.head _))) rfl rfl,aU (.inst (by exact hm _ (.head _)) rfl rfl rfl),(ait hL h0 ht k0 k1 (by decide) (by decide) λs1 o u=>?_).le (lE n 5 6 rfl)]
 have hs:=u.step (ok0 h0) (by decide)
 have g:s1.get 1=some o:=by have:=u.get (ok0 h0).fresh 1;rw [this];rfl
 have ub:=u.block
 have uo:=u.ok
 have e:=u.eq
 subst e
 show(aU (.inst (Aa _ (.head _)) rfl rfl rfl),(jJ (by lia) ?_).le (lE n 1 6 rfl),xk,(c8 (rows:=[]) (py 1) te.row (by decide) ?_).le (lE n 4 6 rfl),ed (.refl _) g uo (by decide) (by rw [c9 te.row (by decide)];decide) λs2 o2 u2 wr=>?_,dR (jO g ⟨by lia,by lia⟩ ub u2 wr te hs.ok) λz st hb=>?_,kk s2 ((hs.trans st).less λj q=>q.elim id id) z)
end
end Mine
namespace Mine
set_option maxHeartbeats 0
open PySem PySem.W PyProof.Rows PySem.Calls
noncomputable def F0:Fs:=⟨λO=>none,λO=>⟨.oct [],0⟩⟩
theorem aiu:eP (Ab "root",2):=⟨⟨by decide+kernel,by decide+kernel,by decide+kernel,by kernel_rfl⟩,by decide+kernel,by decide⟩
theorem amy:eP (Ab "unlinked",3):=⟨⟨by decide+kernel,by decide+kernel,by decide+kernel,by kernel_rfl⟩,by decide+kernel,by decide⟩
theorem afw:Ab "root"≠Ab "unlinked":=by decide+kernel
theorem aq5 {a:Addr × aj} {X Y Z:ah}:(Y++(X++a::Z)).Perm ([a]++(X++(Y++Z))):=
 (AD _ _ _).trans ((List.perm_middle.append_left _).trans AC)
section
variable {c:Cx} {n:Nat} {L L0:ah}
theorem rk {s:OS} {rows:List bP} (hm:∀ p∈aQ s,p∈c.R++L) (z:bE s 1 rows) (hr:bB rows (Ab "root")=some 2) {Q:ad} {X:ac} (kk:∀ x d,Q (.obj x) ((x,.inst 797 d (wF s.x))::L)):ae c (n+9) (.ref 797) [.obj s.x] L Q X:=by
 refine b6 rfl λx d=>kL λa=>@aa _ _ _ _ _ _ _ _ _ _ 12 ?_
 intro GL
 show[ak .here rfl,gP (by exact λp hp=>bC (hm p hp)) z]
 rw [hr]
 show(ak .here rfl,⟨rfl,kk x d⟩)
theorem yP {s:OS} {rows:List bP} (hm:∀ p∈aQ s,p∈c.R++L) (z:bE s 1 rows) (hr:bB rows (Ab "root")=some 2) (hu:bB rows (Ab "unlinked")=some 3):
 ae c (n+11) (.ref 973) [.obj s.x,.int 3] L (λv L'=>∃ T:FT,v=.obj T.ft∧L'.Perm (hZ T s.x++L)) (λO O=>False):=by
 refine b6 rfl λx d=>kQ λa=>@aa _ _ _ _ _ _ _ _ _ _ 12 ?_
 intro GL
 show[ak .here rfl,ak .here rfl,rk (by exact λp hp=>bC (hm p hp)) z hr λy e=>?_,ak (.there .here) rfl,(gP (by exact λp hp=>bC (bC (hm p hp))) z ?_).le (lE n 7 9 rfl)]
 rw [hu]
 show(ak .here rfl,oY λod=>?_,ak (.there .here) rfl,⟨rfl,⟨x,d,y,e,od⟩,rfl,(Bp _ _ _).cons _⟩)
theorem aq6 {s:OS} {rows:List bP} (ok:cK s 3) (z:bE s 1 rows) (hr:bB rows (Ab "root")=some 2) (hu:bB rows (Ab "unlinked")=some 3) (d:aT s 2 [] 0 2):aB s 3 F0 where
 ok:=ok
 t3:=by decide
 t9:=by decide
 master:=⟨rows,z,hr,hu⟩
 root:=⟨[],.refl _,d⟩
 fold:=λk h=>by cases h
 nofo:=λO=>rfl
 file:=λp n O h=>by cases h
theorem wV {s:OS} (hL:L.Perm (aQ s++L0)) (h0:s.objs=[]) (ht:s.top=none):
 ae c (n+13) (.ref 808) [.obj s.x,.int 3] L (λv L'=>∃ (T:FT) (s':OS),v=.obj T.ft∧L'.Perm (aQ s'++(hZ T s'.x++L0))∧aB s' 3 F0) (λO O=>False):=by
 refine ae.norm (qg λa=>@aa _ _ _ _ _ _ _ _ _ _ 12 ?_).fn
 intro GL
 show[(yO hL h0 ht (by decide) (by decide) λs1 st1 z1=>?_).le (lE n 7 12 rfl),aE st1.up λl1 e1=>?_]
 subst e1
 refine (n9 (.refl _) st1.ok (by decide) (by decide) (by decide) λs2 st2 z2 hh1=>?_).le (lE n 7 12 rfl)
 obtain ⟨o2,g2,bo2⟩:=hh1
 have z12:=z1.get (st2.oth 1 (by decide))
 refine aE st2.up2 λl2 e2=>?_
 subst e2
 have zk:=ae8 (sort:=1) (mode:=0) (links:=2) (k:=2) (by decide) (by decide) (by decide) (by decide)
 show[(pn (z:=⟨1,0,0,2,2,3,3⟩) λy d=>?_).le (lE n 2 12 rfl),(bU (z:=⟨1,0,0,2,2,3,3⟩) (x:=y) (d:=d) (L0:=(y,.inst 640 d (eO ⟨1,0,0,2,2,3,3⟩))::L0) List.perm_middle.symm st2.ok g2 zk (Aa _ (.head _)) λs3 st3 g3=>?_).le (lE n 5 12 rfl)]
 have z13:=z12.get (st3.oth 1 (by decide))
 have d3:aT s3 2 [] 0 2:=by
  obtain ⟨⟨q,e1,e2⟩,k0,k1⟩:=z2
  have g2:OS.get _ 2=some o2:=g2
  have e1:OS.get _ 2=some q:=e1
  rw [g2] at e1;cases e1
  have ok2:=st3.ok.ok _ _ g3
  exact ⟨⟨⟨_,g3,ok2,e2.block,e2.enc,e2.rows⟩,by decide,by decide⟩,⟨1,0,0,2,2,3,3⟩,⟨⟨_,g3,ok2,rfl⟩,zk⟩,rfl,rfl,rfl⟩
 refine aE st3.up2 λl3 e3=>?_
 subst e3
 refine (oa (.refl _) st3.ok z13 aiu (by decide) λs4 rows4 st4 p4 z14 O=>?_).le (lE n 8 12 rfl)
 have d4:=d3.get (st4.oth 2 (by decide))
 have e4:rows4=[(Ab "root",2)]:=List.perm_singleton.mp p4
 subst e4
 refine aE st4.up2 λl4 e4=>?_
 subst e4
 refine (n9 (.refl _) st4.ok (by decide) (by decide) (by decide) λs5 st5 z5 O=>?_).le (lE n 7 12 rfl)
 have d5:=d4.get (st5.oth 2 (by decide))
 have z15:=z14.get (st5.oth 1 (by decide))
 refine aE st5.up2 λl5 e5=>?_
 subst e5
 refine (oa (.refl _) st5.ok z15 amy (by show ([(Ab "root",(2:Int))].filter _).length≤2;exact Ai (BZ _ _) (by decide)) λs6 dq st6 p6 z16 O=>?_).le (lE n 8 12 rfl)
 have d6:=d5.get (st6.oth 2 (by decide))
 have p6:dq.Perm [(Ab "root",2),(Ab "unlinked",3)]:=by
  have e:([(Ab "root",(2:Int))].filter λq=>decide (q.1≠Ab "unlinked"))=[(Ab "root",2)]:=by rw [AM,if_pos (decide_eq_true afw)];rfl
  have p6:dq.Perm (([(Ab "root",(2:Int))].filter λq=>decide (q.1≠Ab "unlinked"))++[(Ab "unlinked",3)]):=p6
  rw [e] at p6;exact p6
 have nd:(dq.map Ar).Nodup:=(p6.map _).nodup_iff.mpr (List.nodup_cons.mpr ⟨λh=>afw (List.mem_singleton.mp h),List.nodup_cons.mpr ⟨λh=>(by cases h),BB⟩⟩)
 have fr:bB dq (Ab "root")=some 2:=(f7 nd).mpr (p6.mem_iff.mpr (.head _))
 have fu:bB dq (Ab "unlinked")=some 3:=(f7 nd).mpr (p6.mem_iff.mpr (.tail _ (.head _)))
 have ok6:cK s6 3:=st6.ok
 have R:aB s6 3 F0:=aq6 ok6 z16 fr fu d6
 refine aE st6.up2 λl6 e6=>?_
 clear st6 d6 ok6
 subst e6
 show[((yP (by exact λp hp=>Aa _ (Ag _ hp)) z16 fr fu).le (lE n 11 12 rfl)).useL]
 intro QL v L1 q
 show[an q]
 clear q
 intro T q1' pT
 subst q1'
 show(⟨_,⟨[(y,.inst 640 d (eO ⟨1,0,0,2,2,3,3⟩))],?_⟩,T,_,rfl,.refl _,R⟩,pT.trans aq5)
end
end Mine
namespace Mine
open PySem PySem.W PyProof.Rows PySem.Calls
theorem aq7 {α:Type} {a b c d e:α} {l:List α}:(a::b::c::d::e::l).Perm (c::d::a::e::b::l):=
 (AC (l₁:=[a,b]) (a:=c) (l₂:=d::e::l)).trans (((AC (l₁:=[a,b]) (a:=d) (l₂:=e::l)).trans (((Bp e b l).cons a).cons d)).cons c)
section
variable {c:Cx} {n:Nat} {L:ah}
theorem amz:ae c (n+2) (.ref 1132) [] L (λv L'=>∃ x,v=.obj x∧Sub L L') (λO O=>False):=by
 refine b6 rfl λx d=>qh λa=>@aa _ _ _ _ _ _ _ _ _ _ 12 ?_
 intro GL
 show(ak .here rfl,oY λb=>?_,ak (.there .here) rfl,oY λg=>?_,ak (.there .here) rfl,ak .here rfl,ak .here rfl,⟨rfl,x,rfl,⟨[_,_,_],.refl _⟩⟩)
theorem aiv {Q:ad} {X:ac} (kk:∀ x d,Q (.obj x) ((x,.inst 500 d shF)::L)):ae c (n+2) (.ref 500) [.int 16,.int 32,.int 16,.int 4,.int 4,.int 4,.int 2,.int 64,.int 96,.int 96,.int 128] L Q X:=by
 refine b6 rfl λx d=>oI λa=>@aa _ _ _ _ _ _ _ _ _ _ 12 ?_
 intro GL
 show(ak .here rfl,ak .here rfl,ak .here rfl,ak .here rfl,ak .here rfl,ak .here rfl,ak .here rfl,ak .here rfl,ak .here rfl,ak .here rfl,ak .here rfl,⟨rfl,kk x d⟩)
theorem abj {x:Addr} {Q:ad} {X:ac} (kk:∀ y e fs,Q (.obj y) ((y,.inst 1348 e fs)::L)):ae c (n+2) (.ref 1348) [.obj x,.int 0] L Q X:=by
 refine b6 rfl λy e=>lX λa=>@aa _ _ _ _ _ _ _ _ _ _ 12 ?_
 intro GL
 show(ak .here rfl,ak .here rfl,ak .here rfl,ak .here rfl,⟨rfl,kk y e _⟩)
theorem wW {h x d:Addr} {Q:ad} {X:ac} (kk:∀ (s:OS),s.objs=[]->s.top=none->Q (.obj s.x) (aQ s++L)):ae c (n+5) (.ref 1639) [.obj h,.obj x] ((x,.inst 500 d shF)::L) Q X:=by
 refine ae.norm (b6 rfl λy e=>kc λa=>@aa _ _ _ _ _ _ _ _ _ _ 12 ?_)
 intro GL
 show(ak .here rfl,ak .here rfl,ak .here rfl,ak .here rfl,aI (Aa _ (.tail _ (.head _))) rfl rfl,l7 (cr (by decide)),(aep λdn dd=>?_).le (lE n 2 3 rfl),(abj λsh se fs=>?_).le (lE n 2 3 rfl),ak (.there (.there .here)) rfl,oY λcg=>?_,ak (.there .here) rfl,xk,ak .here rfl,ak .here rfl,ak .here rfl,⟨rfl,_,⟨[_,_],aq7⟩,kk ⟨y,e,x,d,cg,.obj h,.obj sh,.list [],none,[]⟩ rfl rfl⟩)
theorem rm {Q:ad} {X:ac} (kk:∀ (T:FT) (s:OS),aB s 3 F0->Q (.obj T.ft) (aQ s++(hZ T s.x++L))):ae c (n+15) (.ref 1688) [] L Q X:=by
 refine ae.norm (r6 λa=>@aa _ _ _ _ _ _ _ _ _ _ 12 ?_).fn
 intro GL
 show[(amz.le (lE n 2 14 rfl)).useL]
 intro QL v L1 q
 obtain ⟨h,rfl,g1,p1⟩:=q
 show[(aiv λx d=>?_).le (lE n 2 14 rfl),(wW λs h0 ht=>?_).le (lE n 5 14 rfl),((wV (.refl _) h0 ht).le (lE n 13 14 rfl)).useL]
 intro QL v L2 q
 show[fg q]
 clear q
 intro T s' q1' p2 r
 subst q1'
 show(⟨_,⟨g1,?_⟩,kk T s' r⟩,p2.trans (((p1.append_left _).append_left _).trans ?_),((AD _ _ _).append_left _).trans (AD _ _ _))
end
section
variable {K K' α:Type} [DecidableEq K] [DecidableEq K']
noncomputable def ao (l:List (K × α)) (k:K):Option α:=(l.find? λp=>decide (p.1=k)).map EB
noncomputable def aS (l:List (K × α)) (k:K) (a:α):List (K × α):=if l.any (λp=>decide (p.1=k)) then l.map (λp=>if p.1=k then (p.1,a) else p) else l++[(k,a)]
noncomputable def d9 (l:List (K × α)) (k:K):List (K × α):=l.filter λp=>decide (p.1≠k)
noncomputable def cR (g:K->K') (f:α->V) (l:List (K × α)):List (K' × V):=l.map λp=>(g p.1,f p.2)
variable {g:K->K'} {f:α->V}
theorem aZ (inj:∀ a b,g a=g b->a=b) (k:K):∀ l:List (K × α),getD (cR g f l) (g k)=(ao l k).map f
 | []=>rfl
 | (j,a)::l=>by
  unfold getD ao cR
  rw [A0,A8,A8]
  by_cases q:j=k
  ·rw [decide_eq_true q,decide_eq_true (congrArg g q)];rfl
  ·rw [decide_eq_false q,decide_eq_false λe=>q (inj _ _ e)];exact aZ inj k l
theorem any_map (inj:∀ a b,g a=g b->a=b) (k:K) (l:List (K × α)):(cR g f l).any (λp=>decide (p.1=g k))=l.any λp=>decide (p.1=k):=by
 unfold cR
 rw [EY]
 refine congrArg (l.any ·) (funext λp=>?_)
 show decide (g p.1=g k)=decide (p.1=k)
 by_cases q:p.1=k
 ·rw [decide_eq_true q,decide_eq_true (congrArg g q)]
 ·rw [decide_eq_false q,decide_eq_false λe=>q (inj _ _ e)]
theorem rn (inj:∀ a b,g a=g b->a=b) (k:K) (a:α) (l:List (K × α)):l9 (cR g f l) (g k) (f a)=cR g f (aS l k a):=by
 unfold l9 aS
 rw [any_map inj]
 by_cases q:(l.any λp=>decide (p.1=k))=true
 ·rw [if_pos q,if_pos q]
  unfold cR
  rw [Aw,Aw]
  refine By λp O=>?_
  show (if g p.1=g k then (g p.1,f a) else (g p.1,f p.2))=_
  by_cases r:p.1=k
  ·show _=((λp:K × α=>(g p.1,f p.2)) (if p.1=k then (p.1,a) else p))
   rw [if_pos (congrArg g r),if_pos r]
  ·show _=((λp:K × α=>(g p.1,f p.2)) (if p.1=k then (p.1,a) else p))
   rw [if_neg λe=>r (inj _ _ e),if_neg r]
 ·rw [if_neg q,if_neg q]
  unfold cR
  rw [AT];rfl
theorem afx (inj:∀ a b,g a=g b->a=b) (k:K) (l:List (K × α)):ma (cR g f l) (g k)=cR g f (d9 l k):=by
 unfold ma d9 cR
 rw [Jc]
 congr 1
 refine congrArg (l.filter ·) (funext λp=>?_)
 show decide (g p.1≠g k)=decide (p.1≠k)
 by_cases q:p.1=k
 ·rw [decide_eq_false (p:=p.1≠k) λe=>e q,decide_eq_false (p:=g p.1≠g k) λe=>e (congrArg g q)]
 ·rw [decide_eq_true (p:=p.1≠k) q,decide_eq_true (p:=g p.1≠g k) λe=>q (inj _ _ e)]
theorem cB (k j:K) (a:α):∀ l:List (K × α),ao (aS l k a) j=if j=k then some a else ao l j:=by
 intro l
 have app:∀ l:List (K × α),ao (l++[(k,a)]) j=(ao l j).or (if j=k then some a else none):=λl=>by
  unfold ao
  rw [IC]
  cases e:l.find? λp=>decide (p.1=j) with
  | some x=>rfl
  | none=>
   rw [A8]
   by_cases q:j=k
   ·rw [decide_eq_true q.symm,if_pos q];rfl
   ·rw [decide_eq_false λe=>q e.symm,if_neg q];rfl
 have mp:∀ l:List (K × α),ao (l.map λp=>if p.1=k then (p.1,a) else p) j=if j=k then (ao l j).map λO=>a else ao l j:=λl=>by
  induction l with
  | nil=>by_cases q:j=k <;> simp [ao,q]
  | cons p l ih=>
   unfold ao at ih ⊢
   rw [A0,A8,A8]
   by_cases r:p.1=k
   ·rw [if_pos r]
    by_cases q:p.1=j
    ·rw [decide_eq_true q,if_pos (q.symm.trans r)];rfl
    ·rw [decide_eq_false q];exact ih
   ·rw [if_neg r]
    by_cases q:p.1=j
    ·rw [decide_eq_true q,if_neg λe=>r (q.trans e)]
    ·rw [decide_eq_false q];exact ih
 unfold aS
 by_cases q:(l.any λp=>decide (p.1=k))=true
 ·rw [if_pos q,mp]
  by_cases r:j=k
  ·rw [if_pos r,if_pos r]
   refine an (List.any_eq_true.mp q) λp hp e=>?_
   cases e2:ao l j with
   | some x=>rfl
   | none=>
    exfalso
    unfold ao at e2
    rw [Gy,H8] at e2
    exact e2 p hp (by rw [r];exact e)
  ·rw [if_neg r,if_neg r]
 ·rw [if_neg q,app]
  by_cases r:j=k
  ·rw [if_pos r,if_pos r]
   have:ao l j=none:=by
    unfold ao
    rw [Gy,H8]
    intro p hp e
    exact q (List.any_eq_true.mpr ⟨p,hp,by rw [← r];exact e⟩)
   rw [this];rfl
  ·rw [if_neg r,if_neg r];cases ao l j <;> rfl
theorem gV (k j:K):∀ l:List (K × α),ao (d9 l k) j=if j=k then none else ao l j
 | []=>by by_cases q:j=k <;> simp [ao,d9,q]
 | p::l=>by
  have ih:=gV k j l
  unfold ao d9 at ih ⊢
  rw [AM,A8]
  by_cases r:p.1=k
  ·rw [if_neg λe=>(of_decide_eq_true e) r,ih]
   by_cases q:j=k
   ·rw [if_pos q,if_pos q]
   ·rw [if_neg q,if_neg q,decide_eq_false λe=>q (e.symm.trans r)]
  ·rw [if_pos (decide_eq_true r),A8]
   by_cases q:p.1=j
   ·rw [decide_eq_true q,if_neg λe=>r (q.trans e)]
   ·rw [decide_eq_false q];exact ih
theorem cM {k:K} {a:α} {l:List (K × α)} (h:(l.map Ar).Nodup):((aS l k a).map Ar).Nodup:=by
 unfold aS
 by_cases q:(l.any λp=>decide (p.1=k))=true
 ·rw [if_pos q,Aw]
  rw [show (Ar∘λp:K × α=>if p.1=k then (p.1,a) else p)=Ar from funext λp=>by show (if p.1=k then (p.1,a) else p).1=p.1;split <;> rfl]
  exact h
 ·rw [if_neg q,AT]
  show[List.nodup_append.mpr ⟨h,List.nodup_cons.mpr ⟨λh=>(by cases h),BB⟩,λx hx y hy e=>q ?_⟩,an (List.mem_map.mp hx) λp hp q1'=>?_]
  subst q1'
  exact List.any_eq_true.mpr ⟨p,hp,decide_eq_true (e.trans (List.mem_singleton.mp hy))⟩
theorem rp {k:K} {l:List (K × α)} (h:(l.map Ar).Nodup):((d9 l k).map Ar).Nodup:=h.sublist ((HB).map _)
theorem jU {k:K} {a:α} {l:List (K × α)}:(aS l k a).length≤l.length+1:=by
 unfold aS
 split
 ·rw [Af];lia
 ·rw [As];exact AL _
theorem aiw {l:List (K × α)} {k:K} {a:α} (h:ao l k=some a):(k,a)∈l:=by
 unfold ao at h
 refine an (Option.map_eq_some_iff.mp h) λp hp q1'=>?_
 subst q1'
 have:=List.find?_some hp
 rw [← of_decide_eq_true this]
 exact List.mem_of_find?_eq_some hp
theorem zC {l:List (K × α)} {k:K} {a:α} (nd:(l.map Ar).Nodup) (h:(k,a)∈l):ao l k=some a:=by
 induction l with
 | nil=>cases h
 | cons p l ih=>
  have nd:=List.nodup_cons.mp nd
  unfold ao at ih ⊢
  rw [A8]
  cases h with
  | head=>rw [decide_eq_true rfl];rfl
  | tail _ h=>
   rw [decide_eq_false λe=>nd.1 (by rw [e];exact AN (f:=Ar) h)]
   exact ih nd.2 h
end
structure Bk where
 ps:List (_root_.Fin 4 × Option Int)
 th:List (Int × Th)
 mo:List (Int × Int)
 top:Int
structure BA where
 b:Addr
 bp:Addr
 bt:Addr
 bm:Addr
noncomputable abbrev dP (l:List (_root_.Fin 4 × Option Int)):List (Str × V):=cR pS eY l
noncomputable abbrev gh (l:List (Int × Th)):List (Int × V):=cR (λk=>k) wR l
noncomputable abbrev iB (l:List (Int × Int)):List (Int × V):=cR (λk=>k) V.int l
noncomputable abbrev bkF (A:BA) (B:Bk):List (Str × V):=[(Ab "paths",.obj A.bp),(Ab "things",.obj A.bt),(Ab "modes",.obj A.bm),(Ab "top",.int B.top)]
noncomputable abbrev rq (A:BA) (B:Bk):ah:=[(A.b,.dS (bkF A B)),(A.bp,.dS (dP B.ps)),(A.bt,.dI (gh B.th)),(A.bm,.dI (iB B.mo))]
structure yQ (B:Bk):Prop where
 np:(B.ps.map Ar).Nodup
 nt:(B.th.map Ar).Nodup
 nm:(B.mo.map Ar).Nodup
 lp:B.ps.length≤100
 lt:B.th.length≤100
 lm:B.mo.length≤100
 has:∀ p m,ao B.ps p=some (some m)->p≠3∧(∃ x,ao B.th m=some x)∧∃ y,ao B.mo m=some y
 fil:∀ p,p≠3->ao B.ps p≠some none
 oct:∀ m b,ao B.th m=some (.oct b)->b.length≤100
noncomputable def dW (B:Bk):Nat->_root_.Fin 4->Option Int
 | 0,_=>none
 | k+1,p=>match ao B.ps p with
  | some (some m)=>match ao B.th m with
   | some (.lnk q)=>dW B k q
   | _=>some m
  | _=>none
theorem dy (p q:_root_.Fin 4) (h:pS p=pS q):p=q:=zB p q h
theorem eU (a b:Int) (h:(λk=>k) a=(λk:Int=>k) b):a=b:=h
noncomputable def lA (b:List UInt8):d8->List UInt8
 | .write _ i oc=>ovw b i.toNat oc
 | .trunc _ i=>trn b i.toNat
 | _=>b
theorem wX {α:Type} {l:List α} {k:Nat}:aC l (some (k:Int)) none=l.drop k:=by
 by_cases h:k≤l.length
 ·exact ls h
 ·unfold aC
  have e:Cq l.length (k:Int)=l.length:=by
   unfold Cq;rw [if_neg (Int.not_lt.mpr (Av k)),F4 (Int.ofNat_le.mpr (IQ h)),Cf (Av _),AX]
  show ((l.drop (Cq l.length (k:Int))).take _)=_
  rw [e,Ge,HF,List.drop_eq_nil_of_le (IQ h)]
section
variable {c:Cx} {n:Nat} {L:ah}
theorem gX {b:List UInt8} {rc:d8} (ok:rc.Ok) (hb:b.length≤100) (hw:(∃ p i oc,rc=.write p i oc)∨(∃ p i,rc=.trunc p i)∨∃ p m,rc=.mode p m) {Q:ad} {X:ac} (kk:Q (.bytes (lA b rc)) L):ae c (n+1) (.ref 1669) [.bytes b,rc.val] L Q X:=by
 refine (oS λa=>@aa _ _ _ _ _ _ _ _ _ _ 12 ?_).fn
 intro GL
 have gl:∀ i:Nat,b++Bt (max 0 ((i:Int) - b.length)).toNat 0=dK b i:=λi=>by unfold dK;rw [mx0]
 have gn:=λi:Nat=>jT b i
 rcases hw with ⟨p,i,oc,rfl⟩ | ⟨p,i,rfl⟩ | ⟨p,m,rfl⟩
 ·show[e03 ok λO i0 i1 O=>?_,aE (Cn i0) λk q1'=>?_]
  subst q1'
  have kl:k+oc.length≤100:=Int.ofNat_le.mp i1
  have k1:=Ai (BV ..) kl
  have ol:=Ai (Bz ..) kl
  have g6:(dK b k).length≤100:=by rw [gn];exact Nat.max_le.mpr ⟨hb,k1⟩
  have kg:k≤(dK b k).length:=by rw [gn];exact DB ..
  show[jx rfl,gc rfl,cJ (Ai hb (by decide)),aaf,pc (GI _ _) (mx1 (m:=1000000) (Ai k1 (by decide))),k8 (by rw [BY,mx0];exact Ai (CK hb (Ai (H5 ..) k1)) (by decide))]
  rw [gl]
  show[jx rfl,gc rfl,Am _ (Ah rfl ?_),dE (l:=dK b k) (Ai g6 (by decide))]
  rw [jn kg]
  show[amw,k8 (Ai (CK (Ai (CX ..) k1) ol) (by decide)),gc rfl,amw,cJ (Ai ol (by decide)),Am _ (Ah rfl ?_),dE (l:=dK b k) (Ai g6 (by decide))]
  rw [show (k:Int)+(oc.length:Int)=((k+oc.length:Nat):Int) from rfl,wX]
  show(k8 (by rw [As,B8];exact Ai (CK (CK (Ai (CX ..) k1) ol) (Ai (H5 ..) g6)) (by decide)),kk)
 ·show[dR ok λO i0 i1=>?_,aE (Cn i0) λk q1'=>?_]
  subst q1'
  have k1:k≤100:=Int.ofNat_le.mp i1
  have g6:(dK b k).length≤100:=by rw [gn];exact Nat.max_le.mpr ⟨hb,k1⟩
  have kg:k≤(dK b k).length:=by rw [gn];exact DB ..
  show[jx rfl,gc rfl,cJ (Ai hb (by decide)),aaf,pc (GI _ _) (mx1 (m:=1000000) (Ai k1 (by decide))),k8 (by rw [BY,mx0];exact Ai (CK hb (Ai (H5 ..) k1)) (by decide))]
  rw [gl]
  show[jx rfl,gc rfl,Am _ (Ah rfl ?_),dE (l:=dK b k) (Ai g6 (by decide))]
  rw [jn kg]
  exact kk
 ·show(jx rfl,kk)
end
noncomputable def room (ps:List (_root_.Fin 4 × Option Int)) (p:_root_.Fin 4):Bool:=decide (p≠2)||(ao ps 3).isSome
theorem sl3:∀ p:_root_.Fin 4,(!decide (nV (pS p) none (some 3)=Ab "/f/"))=decide (p≠2):=by decide+kernel
theorem atj:∀ p:_root_.Fin 4,(nV (pS p) none (some 3)).length≤1000000:=by decide+kernel
theorem lB {B:Bk} {k:Nat} {p:_root_.Fin 4}:dW B (k+1) p=match ao B.ps p with
 | some (some m)=>match ao B.th m with
  | some (.lnk q)=>dW B k q
  | _=>some m
 | _=>none:=rfl
section
variable {c:Cx} {n:Nat} {L:ah}
theorem gi {pa:Addr} {ps:List (_root_.Fin 4 × Option Int)} {p:_root_.Fin 4} (hm:(pa,aj.dS (dP ps))∈c.R++L) {Q:ad} {X:ac} (kk:Q (.bool (room ps p)) L):ae c (n+1) (.ref 1662) [.obj pa,.str (pS p)] L Q X:=by
 refine (nI λa=>@aa _ _ _ _ _ _ _ _ _ _ 12 ?_).fn
 intro GL
 show[Am _ (Ah rfl ?_),ajn (atj p)]
 by_cases h:p=2
 ·show[fE ((sl3 p).trans (decide_eq_false λe=>e h)),jG (fs:=dP ps) (by exact hm),kq ?_ kk]
  show V.bool (getD (dP ps) (pS 3)).isSome=_
  rw [aZ (f:=eY) dy 3 ps]
  unfold room
  rw [decide_eq_false λe=>e h]
  cases ao ps 3 <;> rfl
 ·show[um ((sl3 p).trans (decide_eq_true h)),kq ?_ kk]
  unfold room
  rw [decide_eq_true h];rfl
inductive aq8 (A:BA) (B:Bk) (p:_root_.Fin 4) (L:ah) (i:Nat) (m:Loc) (L':ah):Prop
 | mk (q:_root_.Fin 4) (h0:m.lookup ("book":Str)=some (.obj A.b)) (h1:m.lookup ("path":Str)=some (.str (pS q))) (h2:L'=L) (h3:dW B 9 p=dW B (9 - i) q)
theorem lC {A:BA} {B:Bk} {p:_root_.Fin 4} (ok:yQ B) (hm:∀ q∈rq A B,q∈c.R++L) {Q:ad} {X:ac} (kk:Q (eY (dW B 9 p)) L):ae c (n+1) (.ref 1655) [.obj A.b,.str (pS p)] L Q X:=by
 refine (rZ λa=>@aa _ _ _ _ _ _ _ _ _ _ 12 ?_).fn
 intro GL
 show[Am (9:Int) (Ah rfl (Ah (by decide) (Ah (by decide) ?_))),exL (aq8 A B p L)]
 intro JJ
 refine Ah ⟨p,rfl,rfl,rfl,rfl⟩ (Ah (λi x m1 L2 hx J=>?_) λm1 L2 J=>?_)
 ·intro GJ
  obtain ⟨q,j1,j2,rfl,j3⟩:=J
  have hi:i <9:=by
   rcases Gw i 9 with h | h
   ·exact h
   ·rw [Bw (by show (bN 9).length≤i;exact h)] at hx;cases hx
  obtain ⟨k,hk⟩:∃ k,9 - i=k+1:=⟨8 - i,Gh (Nat.le_of_lt_succ hi)⟩
  have hk2:9 - (i+1)=k:=ano hk
  rw [hk] at j3
  have g1:getD (dP B.ps) (pS q)=(ao B.ps q).map eY:=aZ dy q B.ps
  have hp:=hm _ (.tail _ (.head _))
  have ht:=hm _ (.tail _ (.tail _ (.head _)))
  show[aV j1,lf (by exact hm _ (.head _)) rfl,aU (.getS (by exact hp)),aV j2,ao7 (by exact hp)]
  rw [g1]
  rw [lB (k:=k) (p:=q)] at j3
  cases e:ao B.ps q with
  | none=>
   rw [e] at j3
   exact kq (by rw [j3];rfl) kk
  | some o=>
   cases o with
   | none=>
    rw [e] at j3
    exact kq (by rw [j3];rfl) kk
   | some m=>
    rw [e] at j3
    show[dR (ok.has q m e) λO q1' O=>?_,aE q1' λx hx=>?_]
    have g2:getD (gh B.th) m=some (wR x):=(aZ (g:=λk:Int=>k) (f:=wR) eU m B.th).trans (by rw [hx];rfl)
    have j3:dW B 9 p=(match ao B.th m with | some (.lnk q)=>dW B k q | _=>some m):=j3
    rw [hx] at j3
    show[aV j1,lf (by exact hm _ (.head _)) rfl,nJ (by exact ht) g2]
    cases x with
    | oct b=>exact kq (by rw [j3];rfl) kk
    | lnk q'=>
     show(aV j1,lf (by exact hm _ (.head _)) rfl,nJ (by exact ht) g2,⟨q',j1,rfl,rfl,by rw [hk2];exact j3⟩)
 ·obtain ⟨q,j1,j2,rfl,j3⟩:=J
  exact kq (by rw [j3];rfl) kk
end
end Mine
namespace Mine
set_option maxHeartbeats 0
open PySem PySem.W PyProof.Rows PySem.Calls
noncomputable def bu (B:Bk) (p:_root_.Fin 4):Bool:=(ao B.ps p).isSome
noncomputable def dQ (B:Bk) (p:_root_.Fin 4) (x:Th) (mode:Int) (v:Option Int):Option Bk:=
 match bu B p||!room B.ps p with
 | true=>none
 | false=>some ⟨aS B.ps p v,aS B.th B.top x,aS B.mo B.top mode,B.top+1⟩
noncomputable def thB (B:Bk) (m:Int):List UInt8:=match ao B.th m with
 | some (.oct b)=>b
 | _=>[]
noncomputable def jy (B:Bk) (p:_root_.Fin 4) (rc:d8):Option Bk:=
 match dW B 9 p with
 | none=>none
 | some m=>some { B with th:=aS B.th m (.oct (lA (thB B m) rc)),mo:=aS B.mo m (match rc with | .mode _ x=>x | _=>(ao B.mo m).getD 0) }
noncomputable def jz (B:Bk) (rc:d8):Option Bk:=match rc with
 | .create p=>dQ B p (.oct []) 420 (some B.top)
 | .mk=>dQ B 3 (.oct []) 493 none
 | .sym p q=>dQ B p (.lnk q) 0 (some B.top)
 | .write p _ _=>jy B p rc
 | .trunc p _=>jy B p rc
 | .mode p _=>jy B p rc
 | .remove p=>match bu B p with
  | false=>none
  | true=>some { B with ps:=d9 B.ps p }
 | .rd=>match bu B 3 with
  | false=>none
  | true=>match bu B 2 with
   | true=>none
   | false=>some { B with ps:=d9 B.ps 3 }
 | .link p q=>match bu B p with
  | false=>none
  | true=>match !room B.ps q||bu B q with
   | true=>none
   | false=>some { B with ps:=aS B.ps q ((ao B.ps p).getD none) }
 | .rename p q=>match bu B p with
  | false=>none
  | true=>match room B.ps q with
   | false=>none
   | true=>if ao B.ps q=ao B.ps p then some B else some { B with ps:=aS (d9 B.ps p) q ((ao B.ps p).getD none) }
noncomputable def am0 (o:Option Bk) (L:ah) (v:V) (L':ah):Prop:=match o with
 | none=>v=.none∧L'=L
 | some B'=>∃ A':BA,v=.obj A'.b∧L'=rq A' B'++L
noncomputable def d8.word:d8->Str
 | .create _=>"create"
 | .write _ _ _=>"write"
 | .trunc _ _=>"truncate"
 | .remove _=>"remove"
 | .rename _ _=>"rename"
 | .mk=>"make_dir"
 | .rd=>"remove_dir"
 | .link _ _=>"link"
 | .sym _ _=>"symlink"
 | .mode _ _=>"set_mode"
noncomputable def d8.path:d8->_root_.Fin 4
 | .create p=>p
 | .write p _ _=>p
 | .trunc p _=>p
 | .remove p=>p
 | .rename p _=>p
 | .mk=>3
 | .rd=>3
 | .link p _=>p
 | .sym p _=>p
 | .mode p _=>p
noncomputable def d8.rest:d8->List V
 | .create _=>[.int 420]
 | .write _ i oc=>[.int i,.bytes oc]
 | .trunc _ i=>[.int i]
 | .remove _=>[]
 | .rename _ q=>[.str (pS q)]
 | .mk=>[.int 493]
 | .rd=>[]
 | .link _ q=>[.str (pS q)]
 | .sym _ q=>[.str (pS q)]
 | .mode _ m=>[.int m]
theorem am1 (rc:d8):rc.val=.tup (.str rc.word::.str (pS rc.path)::rc.rest):=by cases rc <;> rfl
theorem afz (rc:d8):D7 (V.str (pS rc.path)::rc.rest).length 10=true:=by cases rc <;> rfl
theorem abk (rc:d8):D7 rc.rest.length 10=true:=by cases rc <;> rfl
noncomputable def fC:List Str:=["create","make_dir","symlink"]
noncomputable def gY:List Str:=["write","truncate","set_mode"]
theorem af0 {l:List (_root_.Fin 4 × Option Int)} (h:(l.map Ar).Nodup):((dP l).map Ar).Nodup:=by
 unfold dP cR
 rw [Aw,show (Ar∘λp:_root_.Fin 4 × Option Int=>(pS p.1,eY p.2))=pS∘Ar from rfl,← Aw]
 exact List.pairwise_map.mpr (h.imp λh e=>h (dy _ _ e))
theorem wY {α:Type} {f:α->V} {l:List (Int × α)} (h:(l.map Ar).Nodup):((cR (λk:Int=>k) f l).map Ar).Nodup:=by
 unfold cR
 rw [Aw]
 exact h
section
variable {c:Cx} {n:Nat} {L:ah}
theorem abl {X:ac} {a:Addr} {ps:List (_root_.Fin 4 × Option Int)} {L₁:ah} {v:V} {Q:ah->Prop} (p:_root_.Fin 4) (o:Option Int) (hp:bW L a (.dS (dP ps)) L₁) (hz:ps.length≤1000) (ev:v=eY o) (h:Q ((a,.dS (dP (aS ps p o)))::L₁)):g8 c n (.obj a) (.str (pS p)) v L Q X:=by
 subst ev
 exact ac6 hp (by unfold dP cR;rw [Af];lia) ((rn (g:=pS) (f:=eY) dy p o ps).symm▸h)
theorem abm {X:ac} {a:Addr} {th:List (Int × Th)} {L₁:ah} {v:V} {Q:ah->Prop} {m:Int} (x:Th) (hp:bW L a (.dI (gh th)) L₁) (hz:th.length≤1000) (ev:v=wR x) (h:Q ((a,.dI (gh (aS th m x)))::L₁)):g8 c n (.obj a) (.int m) v L Q X:=by
 subst ev
 exact y4 hp (by unfold gh cR;rw [Af];lia) ((rn (g:=λk:Int=>k) (f:=wR) eU m x th).symm▸h)
theorem abn {X:ac} {a:Addr} {mo:List (Int × Int)} {L₁:ah} {Q:ah->Prop} {m x:Int} (hp:bW L a (.dI (iB mo)) L₁) (hz:mo.length≤1000) (h:Q ((a,.dI (iB (aS mo m x)))::L₁)):g8 c n (.obj a) (.int m) (.int x) L Q X:=
 y4 hp (by unfold iB cR;rw [Af];lia) ((rn (g:=λk:Int=>k) (f:=V.int) eU m x mo).symm▸h)
theorem aix {X:ac} {Q:ad} {a:Addr} {ps:List (_root_.Fin 4 × Option Int)} {L₁:ah} (p:_root_.Fin 4) (o:Option Int) (hp:bW L a (.dS (dP ps)) L₁) (hz:ps.length≤1000) (hv:ao ps p=some o) (h:Q (eY o) ((a,.dS (dP (d9 ps p)))::L₁)):ae c n (.builtin "dict.pop") [.obj a,.str (pS p)] L Q X:=
 ao6 hp (by unfold dP cR;rw [Af];lia) ((aZ (g:=pS) (f:=eY) dy p ps).trans (by rw [hv];rfl)) (by rw [show ma (dP ps) (pS p)=dP (d9 ps p) from afx (g:=pS) (f:=eY) dy p ps];exact h)
theorem jA {α:Type} {x y z w:α} {l:List α}:(x::y::z::w::l).Perm (x::w::z::y::l):=AG _ ((Bp z y _).trans ((Bp w y l).cons z |>.trans (Bp w z _)))
theorem gj {a b d:Addr} {t:V}:(([(Ab "paths",V.obj a),(Ab "things",V.obj b),(Ab "modes",V.obj d),(Ab "top",t)]:List (Str × V)).map Ar).Nodup:=by
 show ([Ab "paths",Ab "things",Ab "modes",Ab "top"]:List Str).Nodup
 decide+kernel
theorem mN {B:Bk} (bk:yQ B):∀ {k:Nat} {p:_root_.Fin 4} {m:Int},dW B k p=some m->(∃ b,ao B.th m=some (.oct b))∧∃ y,ao B.mo m=some y
 | 0,_,_,h=>by cases h
 | k+1,p,m,h=>by
  rw [lB] at h
  split at h
  ·rename_i m' e
   show[dR (bk.has p m' e) λO q1' y=>?_,aE q1' λx hx=>?_]
   rw [hx] at h
   cases x with
   | oct b=>cases h;exact ⟨⟨b,hx⟩,y⟩
   | lnk q=>exact mN bk h
  ·cases h
theorem wZ {A:BA} {B:Bk} {rc:d8} (bk:yQ B) (ok:rc.Ok) (hm:∀ q∈rq A B,q∈c.R++L):ae c (n+2) (.ref 1676) [.obj A.b,rc.val] L (am0 (jz B rc) L) (λO O=>False):=by
 rw [am1]
 have hps:∀ M:ah,(A.bp,aj.dS (dP B.ps))∈c.R++(M++L):=λM=>(List.mem_append.mp (hm _ (.tail _ (.head _)))).elim (Ag _) λq=>Aa _ (Aa _ q)
 have hth:∀ M:ah,(A.bt,aj.dI (gh B.th))∈c.R++(M++L):=λM=>(List.mem_append.mp (hm _ (.tail _ (.tail _ (.head _))))).elim (Ag _) λq=>Aa _ (Aa _ q)
 have hmo:∀ M:ah,(A.bm,aj.dI (iB B.mo))∈c.R++(M++L):=λM=>(List.mem_append.mp (hm _ (.tail _ (.tail _ (.tail _ (.head _)))))).elim (Ag _) λq=>Aa _ (Aa _ q)
 have hb:∀ M:ah,(A.b,aj.dS (bkF A B))∈c.R++(M++L):=λM=>(List.mem_append.mp (hm _ (.head _))).elim (Ag _) λq=>Aa _ (Aa _ q)
 have lps:(dP B.ps).length≤100:=by unfold dP cR;rw [Af];exact bk.lp
 have lth:(gh B.th).length≤100:=by unfold gh cR;rw [Af];exact bk.lt
 have lmo:(iB B.mo).length≤100:=by unfold iB cR;rw [Af];exact bk.lm
 refine ae.norm (qn λa=>@aa _ _ _ _ _ _ _ _ _ _ 12 ?_).fn
 intro GL
 show[oY (Am _ (Ah rfl ?_)),jx (afz rc),abe (abk rc),lf (by exact hb []) rfl,Or.inl ⟨A.bp,dP B.ps,rfl,by exact hps [],by lia,?_⟩,afs (fs:=dP B.ps) (by lia) (af0 bk.np) λnp=>?_,Am _ (Ah rfl (Ah rfl ?_)),oY (Am _ (Ah rfl ?_)),lf (by exact hb [_]) rfl,Or.inr ⟨A.bt,gh B.th,rfl,by exact hth [_],by lia,?_⟩,aft (fs:=gh B.th) (by lia) (wY bk.nt) λnt=>?_,lf (by exact hb [_,_]) rfl,Or.inr ⟨A.bm,iB B.mo,rfl,by exact hmo [_,_],by lia,?_⟩,aft (fs:=iB B.mo) (by lia) (wY bk.nm) λnm=>?_,lf (by exact hb [_,_,_]) rfl,Am _ (Ah rfl (Ah rfl ?_))]
 have non:∀ {L':ah},jz B rc=none->Sub L L'->∃ L1,Sub L1 L'∧am0 (jz B rc) L .none L1:=λe p=>⟨L,p,by rw [e];exact ⟨rfl,rfl⟩⟩
 have fin:∀ {B':Bk} {b:Addr} {L':ah},jz B rc=some B'->L'.Perm (rq ⟨b,np,nt,nm⟩ B'++L)->∃ L1,Sub L1 L'∧am0 (jz B rc) L (.obj b) L1:=λe p=>⟨_,.of p,by rw [e];exact ⟨_,rfl,rfl⟩⟩
 have hasE:∀ p,(getD (dP B.ps) (pS p)).isSome=bu B p:=λp=>by rw [aZ (f:=eY) dy p B.ps];unfold bu;cases ao B.ps p <;> rfl
 have noT:∀ p,bu B p=false->(!(getD (dP B.ps) (pS p)).isSome)=true:=λp h=>by rw [hasE p,h];rfl
 have noF:∀ p,bu B p=true->(!(getD (dP B.ps) (pS p)).isSome)=false:=λp h=>by rw [hasE p,h];rfl
 have mp:(np,aj.dS (dP B.ps))∈c.R++((nm,aj.dI (iB B.mo))::(nt,aj.dI (gh B.th))::(np,aj.dS (dP B.ps))::L):=Aa _ (.tail _ (.tail _ (.head _)))
 have sub3:Sub L ((nm,aj.dI (iB B.mo))::(nt,aj.dI (gh B.th))::(np,aj.dS (dP B.ps))::L):=⟨[_,_,_],.refl _⟩
 cases rc with
 | create p=>
  show[aO (ns:=fC) rfl,jG (fs:=dP B.ps) (by exact mp)]
  cases h1:bu B p with
  | true=>exact um ((hasE p).trans h1) (non (by show dQ B p _ _ _=none;unfold dQ;rw [h1];rfl) sub3)
  | false=>
   show[fE ((hasE p).trans h1),(gi (p:=p) (by exact mp) ?_).le (lE n 1 1 rfl)]
   cases h2:room B.ps p with
   | false=>exact non (by show dQ B p _ _ _=none;unfold dQ;rw [h1,h2];rfl) sub3
   | true=>
    show(abl p (some B.top) (.there (.there .here)) (by have:=bk.lp;lia) rfl,gc rfl,abm (.oct []) (.there (.there .here)) (by have:=bk.lt;lia) rfl,abn (.there (.there .here)) (by have:=bk.lm;lia),λb=>Am _ (Ah .here (Ah gj (Ah (by show 4≤_;decide) ?_))),fin (by show dQ B p _ _ _=_;unfold dQ;rw [h1,h2];rfl) jA)
 | mk=>
  show[aO (ns:=fC) rfl,jG (fs:=dP B.ps) (by exact mp)]
  cases h1:bu B 3 with
  | true=>exact um ((hasE 3).trans h1) (non (by show dQ B 3 _ _ _=none;unfold dQ;rw [h1];rfl) sub3)
  | false=>
   show[fE ((hasE 3).trans h1),(gi (p:=3) (by exact mp) ?_).le (lE n 1 1 rfl)]
   cases h2:room B.ps 3 with
   | false=>exact non (by show dQ B 3 _ _ _=none;unfold dQ;rw [h1,h2];rfl) sub3
   | true=>
    show(abl 3 none (.there (.there .here)) (by have:=bk.lp;lia) rfl,gc rfl,abm (.oct []) (.there (.there .here)) (by have:=bk.lt;lia) rfl,abn (.there (.there .here)) (by have:=bk.lm;lia),λb=>Am _ (Ah .here (Ah gj (Ah (by show 4≤_;decide) ?_))),fin (by show dQ B 3 _ _ _=_;unfold dQ;rw [h1,h2];rfl) jA)
 | sym p q=>
  show[aO (ns:=fC) rfl,jG (fs:=dP B.ps) (by exact mp)]
  cases h1:bu B p with
  | true=>exact um ((hasE p).trans h1) (non (by show dQ B p _ _ _=none;unfold dQ;rw [h1];rfl) sub3)
  | false=>
   show[fE ((hasE p).trans h1),(gi (p:=p) (by exact mp) ?_).le (lE n 1 1 rfl)]
   cases h2:room B.ps p with
   | false=>exact non (by show dQ B p _ _ _=none;unfold dQ;rw [h1,h2];rfl) sub3
   | true=>
    show(abl p (some B.top) (.there (.there .here)) (by have:=bk.lp;lia) rfl,gc rfl,abm (.lnk q) (.there (.there .here)) (by have:=bk.lt;lia) rfl,abn (.there (.there .here)) (by have:=bk.lm;lia),λb=>Am _ (Ah .here (Ah gj (Ah (by show 4≤_;decide) ?_))),fin (by show dQ B p _ _ _=_;unfold dQ;rw [h1,h2];rfl) jA)
 | write p i oc=>
  show[aO (ns:=fC) rfl,aO (ns:=gY) rfl,lC (p:=p) bk (by exact λq h=>(List.mem_append.mp (hm q h)).elim (Ag _) λw=>Aa _ (.tail _ (.tail _ (.tail _ w))))]
  cases h1:dW B 9 p with
  | none=>exact non (by show jy B p _=none;unfold jy;rw [h1]) sub3
  | some m=>
   obtain ⟨⟨bs,hb1⟩,y,hy⟩:=mN bk h1
   have g2:getD (gh B.th) m=some (.bytes bs):=(aZ (g:=λk:Int=>k) (f:=wR) eU m B.th).trans (by rw [hb1];rfl)
   have g3:getD (iB B.mo) m=some (.int y):=(aZ (g:=λk:Int=>k) (f:=V.int) eU m B.mo).trans (by rw [hy];rfl)
   have hT:thB B m=bs:=by unfold thB;rw [hb1]
   have hM:(ao B.mo m).getD 0=y:=by rw [hy];rfl
   show(nJ (fs:=gh B.th) (Aa _ (.tail _ (.head _))) g2,gX (rc:=.write p i oc) ok (bk.oct _ _ hb1) (.inl ⟨_,_,_,rfl⟩),abm (.oct (lA bs (.write p i oc))) (.there .here) (by have:=bk.lt;lia) rfl,nJ (fs:=iB B.mo) (Aa _ (.tail _ (.head _))) g3,abn (.there .here) (by have:=bk.lm;lia),λb=>Am _ (Ah .here (Ah gj (Ah (by show 4≤_;decide) ?_))),fin (B':={ B with th:=aS B.th m (.oct (lA bs (.write p i oc))),mo:=aS B.mo m y }) (by show jy B p _=_;unfold jy;rw [h1];show some _=some _;rw [hT,hM]) jA)
 | trunc p i=>
  show[aO (ns:=fC) rfl,aO (ns:=gY) rfl,lC (p:=p) bk (by exact λq h=>(List.mem_append.mp (hm q h)).elim (Ag _) λw=>Aa _ (.tail _ (.tail _ (.tail _ w))))]
  cases h1:dW B 9 p with
  | none=>exact non (by show jy B p _=none;unfold jy;rw [h1]) sub3
  | some m=>
   obtain ⟨⟨bs,hb1⟩,y,hy⟩:=mN bk h1
   have g2:getD (gh B.th) m=some (.bytes bs):=(aZ (g:=λk:Int=>k) (f:=wR) eU m B.th).trans (by rw [hb1];rfl)
   have g3:getD (iB B.mo) m=some (.int y):=(aZ (g:=λk:Int=>k) (f:=V.int) eU m B.mo).trans (by rw [hy];rfl)
   have hT:thB B m=bs:=by unfold thB;rw [hb1]
   have hM:(ao B.mo m).getD 0=y:=by rw [hy];rfl
   show(nJ (fs:=gh B.th) (Aa _ (.tail _ (.head _))) g2,gX (rc:=.trunc p i) ok (bk.oct _ _ hb1) (.inr (.inl ⟨_,_,rfl⟩)),abm (.oct (lA bs (.trunc p i))) (.there .here) (by have:=bk.lt;lia) rfl,nJ (fs:=iB B.mo) (Aa _ (.tail _ (.head _))) g3,abn (.there .here) (by have:=bk.lm;lia),λb=>Am _ (Ah .here (Ah gj (Ah (by show 4≤_;decide) ?_))),fin (B':={ B with th:=aS B.th m (.oct (lA bs (.trunc p i))),mo:=aS B.mo m y }) (by show jy B p _=_;unfold jy;rw [h1];show some _=some _;rw [hT,hM]) jA)
 | mode p x=>
  show[aO (ns:=fC) rfl,aO (ns:=gY) rfl,lC (p:=p) bk (by exact λq h=>(List.mem_append.mp (hm q h)).elim (Ag _) λw=>Aa _ (.tail _ (.tail _ (.tail _ w))))]
  cases h1:dW B 9 p with
  | none=>exact non (by show jy B p _=none;unfold jy;rw [h1]) sub3
  | some m=>
   obtain ⟨⟨bs,hb1⟩,y,hy⟩:=mN bk h1
   have g2:getD (gh B.th) m=some (.bytes bs):=(aZ (g:=λk:Int=>k) (f:=wR) eU m B.th).trans (by rw [hb1];rfl)
   have g3:getD (iB B.mo) m=some (.int y):=(aZ (g:=λk:Int=>k) (f:=V.int) eU m B.mo).trans (by rw [hy];rfl)
   have hT:thB B m=bs:=by unfold thB;rw [hb1]
   have hM:(ao B.mo m).getD 0=y:=by rw [hy];rfl
   show(nJ (fs:=gh B.th) (Aa _ (.tail _ (.head _))) g2,gX (rc:=.mode p x) ok (bk.oct _ _ hb1) (.inr (.inr ⟨_,_,rfl⟩)),abm (.oct (lA bs (.mode p x))) (.there .here) (by have:=bk.lt;lia) rfl,gc rfl,abn (.there .here) (by have:=bk.lm;lia),λb=>Am _ (Ah .here (Ah gj (Ah (by show 4≤_;decide) ?_))),fin (B':={ B with th:=aS B.th m (.oct (lA bs (.mode p x))),mo:=aS B.mo m x }) (by show jy B p _=_;unfold jy;rw [h1];show some _=some _;rw [hT]) jA)
 | remove p=>
  show[aO (ns:=fC) rfl,aO (ns:=gY) rfl,eJ (fs:=dP B.ps) (by exact mp)]
  cases h1:bu B p with
  | false=>exact um (noT p h1) (non (by show (match bu B p with | false=>none | true=>_)=none;rw [h1]) sub3)
  | true=>
   show(fE (noF p h1),aE (Option.isSome_iff_exists.mp (show (ao B.ps p).isSome=true from h1)) λo ho=>?_,aU (.popS (by exact mp)),aix p o (.there (.there .here)) (by have:=bk.lp;lia) ho,λb=>Am _ (Ah .here (Ah gj (Ah (by show 4≤_;decide) ?_))),fin (B':={ B with ps:=d9 B.ps p }) (by show (match bu B p with | false=>none | true=>_)=_;rw [h1]) (AG _ (AG _ (Bp _ _ _))))
 | rd=>
  show[aO (ns:=fC) rfl,aO (ns:=gY) rfl,eJ (fs:=dP B.ps) (by exact mp)]
  cases h1:bu B 3 with
  | false=>exact um (by show (!(getD (dP B.ps) (pS 3)).isSome)=true;rw [hasE 3,h1];rfl) (non (by show (match bu B 3 with | false=>none | true=>_)=none;rw [h1]) sub3)
  | true=>
   show[fE (by show (!(getD (dP B.ps) (pS 3)).isSome)=false;rw [hasE 3,h1];rfl),jG (fs:=dP B.ps) (by exact mp)]
   cases h2:bu B 2 with
   | true=>exact um (by show (getD (dP B.ps) (pS 2)).isSome=true;rw [hasE 2,h2]) (non (by show (match bu B 3 with | false=>none | true=>match bu B 2 with | true=>none | false=>_)=none;rw [h1,h2]) sub3)
   | false=>
    show(fE (by show (getD (dP B.ps) (pS 2)).isSome=false;rw [hasE 2,h2]),aE (Option.isSome_iff_exists.mp (show (ao B.ps 3).isSome=true from h1)) λo ho=>?_,aU (.popS (by exact mp)),aix 3 o (.there (.there .here)) (by have:=bk.lp;lia) ho,λb=>Am _ (Ah .here (Ah gj (Ah (by show 4≤_;decide) ?_))),fin (B':={ B with ps:=d9 B.ps 3 }) (by show (match bu B 3 with | false=>none | true=>match bu B 2 with | true=>none | false=>_)=_;rw [h1,h2]) (AG _ (AG _ (Bp _ _ _))))
 | link p q=>
  show[aO (ns:=fC) rfl,aO (ns:=gY) rfl,eJ (fs:=dP B.ps) (by exact mp)]
  cases h1:bu B p with
  | false=>exact um (noT p h1) (non (by show (match bu B p with | false=>none | true=>_)=none;rw [h1]) sub3)
  | true=>
   show[fE (noF p h1),aE (Option.isSome_iff_exists.mp (show (ao B.ps p).isSome=true from h1)) λo ho=>?_,gc rfl,gi (p:=q) (by exact mp)]
   have eA:jz B (.link p q)=(match !room B.ps q||bu B q with | true=>none | false=>some { B with ps:=aS B.ps q ((ao B.ps p).getD none) }):=by show (match bu B p with | false=>none | true=>_)=_;rw [h1]
   cases h2:room B.ps q with
   | false=>exact non (by rw [eA,h2];rfl) sub3
   | true=>
    show[gc rfl,jG (fs:=dP B.ps) (by exact mp)]
    cases h3:bu B q with
    | true=>exact um ((hasE q).trans h3) (non (by rw [eA,h2,h3];rfl) sub3)
    | false=>
     show(fE ((hasE q).trans h3),lf (fs:=dP B.ps) (by exact mp) ((aZ (g:=pS) (f:=eY) dy p B.ps).trans (by rw [ho];rfl)),gc rfl,abl q o (.there (.there .here)) (by have:=bk.lp;lia) rfl,λb=>Am _ (Ah .here (Ah gj (Ah (by show 4≤_;decide) ?_))),fin (B':={ B with ps:=aS B.ps q o }) (by rw [eA,h2,h3,ho];rfl) (AG _ (AG _ (Bp _ _ _))))
 | rename p q=>
  show[aO (ns:=fC) rfl,aO (ns:=gY) rfl,eJ (fs:=dP B.ps) (by exact mp)]
  cases h1:bu B p with
  | false=>exact um (noT p h1) (non (by show (match bu B p with | false=>none | true=>_)=none;rw [h1]) sub3)
  | true=>
   show[fE (noF p h1),aE (Option.isSome_iff_exists.mp (show (ao B.ps p).isSome=true from h1)) λo ho=>?_,gc rfl,gi (p:=q) (by exact mp)]
   have eA:jz B (.rename p q)=(match room B.ps q with | false=>none | true=>if ao B.ps q=ao B.ps p then some B else some { B with ps:=aS (d9 B.ps p) q ((ao B.ps p).getD none) }):=by show (match bu B p with | false=>none | true=>_)=_;rw [h1]
   cases h2:room B.ps q with
   | false=>exact non (by rw [eA,h2]) sub3
   | true=>
    have gp:getD (dP B.ps) (pS p)=some (eY o):=(aZ (g:=pS) (f:=eY) dy p B.ps).trans (by rw [ho];rfl)
    show[gc rfl,eJ (fs:=dP B.ps) (by exact mp)]
    cases h3:ao B.ps q with
    | none=>
     show(um (noT q (by unfold bu;rw [h3];rfl)),aU (.popS (by exact mp)),aix p o (.there (.there .here)) (by have:=bk.lp;lia) ho,gc rfl,abl q o .here (by have:=bk.lp;have:(d9 B.ps p).length≤B.ps.length:=BZ _ _;lia) rfl,λb=>Am _ (Ah .here (Ah gj (Ah (by show 4≤_;decide) ?_))),fin (B':={ B with ps:=aS (d9 B.ps p) q o }) (by rw [eA,h2,h3,ho];rfl) (AG _ (AG _ (Bp _ _ _))))
    | some o2=>
     show[fE (noF q (by unfold bu;rw [h3];rfl))]
     have gq:getD (dP B.ps) (pS q)=some (eY o2):=(aZ (g:=pS) (f:=eY) dy q B.ps).trans (by rw [h3];rfl)
     cases o with
     | none=>exact (bk.fil p ok.1 ho).elim
     | some m=>
      cases o2 with
      | none=>exact (bk.fil q ok.2 h3).elim
      | some m2=>
       show[gc rfl,lf (fs:=dP B.ps) (by exact mp) gq,lf (fs:=dP B.ps) (by exact mp) gp]
       by_cases h4:m2=m
       ·show(fE (decide_eq_false λe=>e h4),λb=>Am _ (Ah .here (Ah gj (Ah (by show 4≤_;decide) ?_))),fin (B':=B) (by rw [eA,h2,h3,ho,h4];show (if _ then _ else _)=_;rw [if_pos rfl]) jA)
       ·show(d0 h4,aU (.popS (by exact mp)),aix p (some m) (.there (.there .here)) (by have:=bk.lp;lia) ho,gc rfl,abl q (some m) .here (by have:=bk.lp;have:(d9 B.ps p).length≤B.ps.length:=BZ _ _;lia) rfl,λb=>Am _ (Ah .here (Ah gj (Ah (by show 4≤_;decide) ?_))),fin (B':={ B with ps:=aS (d9 B.ps p) q (some m) }) (by rw [eA,h2,h3,ho];show (if _ then _ else _)=_;rw [if_neg λe=>h4 (AH (AH e))];rfl) (AG _ (AG _ (Bp _ _ _))))
end
end Mine
namespace Mine
open PySem PySem.W PyProof.Rows PySem.Calls
noncomputable def moO (F:Fs):Option (_root_.Fin 4)->Int
 | none=>0
 | some p=>if p=3 then 493 else match F.pt p with
  | none=>0
  | some n=>(F.nd n).mode
noncomputable def dV (B:Bk):Option Int->V
 | none=>.none
 | some m=>match ao B.th m with
  | some x=>wR x
  | none=>.none
noncomputable def mV (B:Bk):Option Int->V
 | none=>.int 493
 | some m=>.int ((ao B.mo m).getD 0)
structure Tells (F:Fs) (B:Bk):Prop where
 mem:∀ p,xm F p=bu B p
 val:∀ p o,ao B.ps p=some o->dV B o=cO F (some p)∧mV B o=.int (moO F (some p))
theorem pF {α:Type} [DecidableEq α]:∀ {l1 l2:List α},l1.Nodup->(∀ a∈l1,a∈l2)->l1.length≤l2.length
 | [],_,_,_=>BQ _
 | a::l1,l2,nd,h=>by
  have nd:=List.nodup_cons.mp nd
  have ha:=h a (.head _)
  have:=pF (l1:=l1) (l2:=l2.erase a) nd.2 λb hb=>(List.mem_erase_of_ne (show b≠a from λe=>nd.1 (by rw [← e];exact hb))).mpr (h b (.tail _ hb))
  rw [List.length_erase_of_mem ha] at this
  exact Nat.add_le_of_le_sub (Gv ha) this
noncomputable def iC (B:Bk) (g:Option Int->V) (v0:V) (l:List (_root_.Fin 4 × Option Int)):List (Str × V):=(Ab "/",v0)::cR pS g l
theorem zD {B:Bk} {g:Option Int->V} {v0:V} {l:List (_root_.Fin 4 × Option Int)} (p:_root_.Fin 4):getD (iC B g v0 l) (pS p)=(ao l p).map g:=by
 unfold iC getD
 rw [A8,decide_eq_false (show ¬ (Ab "/",v0).1=pS p from λe=>uT p e.symm)]
 exact aZ dy p l
theorem w8 {B:Bk} {g:Option Int->V} {v0:V} {l:List (_root_.Fin 4 × Option Int)}:getD (iC B g v0 l) (Ab "/")=some v0:=by
 unfold iC getD
 rw [A8,decide_eq_true (show (Ab "/",v0).1=Ab "/" from rfl)];rfl
theorem aiy {B:Bk} {g:Option Int->V} {v0:V} {l:List (_root_.Fin 4 × Option Int)} {p:_root_.Fin 4} {o:Option Int} (h:p∉l.map Ar):l9 (iC B g v0 l) (pS p) (g o)=iC B g v0 (l++[(p,o)]):=by
 rw [wT]
 ·unfold iC cR;rw [AT];rfl
 ·intro q
  unfold iC cR at q
  rcases List.mem_cons.mp q with q | q
  ·exact uT p q
  ·rw [Aw] at q
   show(an (List.mem_map.mp q) λe he e2=>?_,h (by rw [← dy _ _ e2];exact AN (f:=Ar) he))
theorem zE {v:V}:(([(Ab "/",v)]:List (Str × V)).map Ar).Nodup:=List.nodup_cons.mpr ⟨λh=>(by cases h),BB⟩
theorem tells_eq {F:Fs} {B:Bk} {ps:List (_root_.Fin 4)} (bk:yQ B) (T:Tells F B) (nd:ps.Nodup) (hps:∀ p,p∈ps↔xm F p=true):ps.length=B.ps.length:=by
 have e:∀ p,p∈ps↔p∈B.ps.map Ar:=λp=>by
  rw [hps,T.mem]
  constructor
  ·intro h
   show(aE (Option.isSome_iff_exists.mp h) λo ho=>?_,AN (f:=Ar) (aiw ho))
  ·intro h
   refine an (List.mem_map.mp h) λx hx q1'=>?_
   subst q1'
   unfold bu;rw [zC (a:=x.2) bk.np hx];rfl
 have h1:=pF nd λp h=>(e p).mp h
 have h2:=pF bk.np λp h=>(e p).mpr h
 rw [Af] at h1 h2
 lia
theorem af1 (x:Th):tv (wR x)=true:=by cases x <;> rfl
theorem aiz (F:Fs) (o:Option (_root_.Fin 4)):tv (cO F o)=true:=by
 cases o with
 | none=>rfl
 | some p=>
  show tv (if p=3 then .none else _)=true
  by_cases q:p=3
  ·rw [if_pos q];rfl
  ·rw [if_neg q]
   cases F.pt p with
   | none=>rfl
   | some n=>exact af1 _
end Mine
namespace Mine
open PySem PySem.W PyProof.Rows PySem.Calls
open Classical in
noncomputable def rt (F:Fs) (v:V):Option V:=some (.tup [v.t.getD 0 .none,.int (if h:∃ o,(v.t.getD 0 .none)=.str (bJ o) then moO F h.choose else 0)])
theorem w9 {F:Fs} {i:It}:rt F (itV i)=some (.tup [.str (bJ i.p),.int (moO F i.p)]):=by
 have h:∃ o,((itV i).t.getD 0 V.none)=.str (bJ o):=⟨i.p,rfl⟩
 unfold rt
 rw [dif_pos h]
 have e:=h.choose_spec
 have e2:V.str (bJ i.p)=.str (bJ h.choose):=e
 have e3:h.choose=i.p:=rj (by injection e2 with e2;exact e2.symm)
 rw [e3];rfl
theorem ai0 {F:Fs} {i:It} (h:wP F i):i.z.mode=moO F i.p:=by
 unfold wP at h
 split at h
 ·rename_i e;rw [e];exact h.2.2
 ·rename_i p e
  rw [e]
  show _=if p=3 then 493 else _
  by_cases q:p=3
  ·rw [if_pos q] at h ⊢;exact h.2.2
  ·rw [if_neg q] at h ⊢;rw [h.1];exact h.2.2.1
theorem aq9 {α:Type} {x y z:α} {l:List α}:(x::y::z::l).Perm (z::y::x::l):=(jA (x:=x) (y:=x) (z:=y) (w:=z) (l:=l)).cons_inv
theorem abo {α β:Type} [DecidableEq α] {l:List (α × β)} {i:Nat} {e:α × β} (nd:(l.map Ar).Nodup) (h:l[i]?=some e):e.1∉(l.take i).map Ar:=λq=>by
 rw [List.map_take] at q
 have hd:e.1∈(l.map Ar).drop i:=Bc (i:=0) (by rw [Dc,Nat.add_zero,AE,h];rfl)
 exact (List.nodup_append.mp (by rw [Bg];exact nd)).2.2 _ q _ hd rfl
section
variable {c:Cx} {n:Nat} {L:ah}
theorem uV {X:ac} {B:Bk} {g:Option Int->V} {v0 v:V} {a:Addr} {l:List (_root_.Fin 4 × Option Int)} {L₁:ah} {Q:ah->Prop} (p:_root_.Fin 4) (o:Option Int) (hp:bW L a (.dS (iC B g v0 l)) L₁) (hz:l.length≤1000) (hn:p∉l.map Ar) (ev:v=g o) (h:Q ((a,.dS (iC B g v0 (l++[(p,o)])))::L₁)):g8 c n (.obj a) (.str (pS p)) v L Q X:=by
 subst ev
 exact ac6 hp (by show (cR pS g l).length+1≤_;unfold cR;rw [Af];lia) (by rw [aiy hn];exact h)
theorem ai1 {s:OS} {t:Int} {F:Fs} {B:Bk} {A:BA} {T:FT} (bk:yQ B) (TT:Tells F B) (hm:∀ q∈aQ s,q∈c.R++L) (hT:∀ q∈hZ T s.x,q∈c.R++L) (hB:∀ q∈rq A B,q∈c.R) (r:aB s t F) {Q:ad} {X:ac} (kk:Q (.bool true) L):ae c (n+14) (.ref 1681) [.obj T.ft,.obj A.b] L Q X:=by
 have hb0:∀ M:ah,(A.b,aj.dS (bkF A B))∈c.R++M:=λM=>Ag _ (hB _ (.head _))
 have hb1:∀ M:ah,(A.bp,aj.dS (dP B.ps))∈c.R++M:=λM=>Ag _ (hB _ (.tail _ (.head _)))
 have hb2:∀ M:ah,(A.bt,aj.dI (gh B.th))∈c.R++M:=λM=>Ag _ (hB _ (.tail _ (.tail _ (.head _))))
 have hb3:∀ M:ah,(A.bm,aj.dI (iB B.mo))∈c.R++M:=λM=>Ag _ (hB _ (.tail _ (.tail _ (.tail _ (.head _)))))
 have up:∀ {q:Addr × aj} (M:ah),q∈c.R++L->q∈c.R++(M++L):=λM h=>(List.mem_append.mp h).elim (Ag _) λw=>Aa _ (Aa _ w)
 show[ec r.master λmrows mz mr O=>?_,ae.norm (qo λa=>@aa _ _ _ _ _ _ _ _ _ _ 12 ?_).fn]
 intro GL
 show[oY (Am _ (Ah rfl ?_)),λx=>Am _ (Ah .here (Ah zE (Ah (by show 1≤_;decide) ?_))),λy=>Am _ (Ah .here (Ah zE (Ah (by show 1≤_;decide) ?_))),aI (by exact up [_,_] (hT _ (.head _))) rfl rfl,(rk (by exact λp hp=>up [_,_] (hm p hp)) mz mr λv d=>?_).le (lE n 9 13 rfl),Am _ (Ah rfl (Ah rfl ?_)),lf (by exact hb0 _) rfl,ph (aae (es:=dP B.ps) (by exact hB _ (.tail _ (.head _))))]
 refine exL (λi m1 L1=>m1.lookup ("book":Str)=some (.obj A.b)∧m1.lookup ("due":Str)=some (.obj x)∧m1.lookup ("modes":Str)=some (.obj y)∧m1.lookup ("view":Str)=some (.obj v)∧
  L1.Perm ((x,aj.dS (iC B (dV B) .none (B.ps.take i)))::(y,aj.dS (iC B (mV B) (.int 0) (B.ps.take i)))::(v,aj.inst 797 d (wF s.x))::L)) ?_
 intro JJ
 refine Ah ⟨rfl,rfl,rfl,rfl,?_⟩ (Ah (λi r0 m1 L2 hx J=>?_) λm1 L2 J=>?_)
 ·rw [Fh]
  exact aq9
 ·intro GJ
  refine e04 J λj1 j2 j3 j4 jL=>?_
  rw [AE] at hx
  refine an (Option.map_eq_some_iff.mp hx) λe hx2 q1'=>?_
  subst q1'
  rw [show dP B.ps=B.ps.map (λp=>(pS p.1,eY p.2)) from rfl,AE] at hx2
  refine an (Option.map_eq_some_iff.mp hx2) λq1' hx3 q2'=>?_
  obtain ⟨p,o⟩:=q1'
  subst q2'
  have go:ao B.ps p=some o:=zC bk.np (Bc hx3)
  have gp:getD (dP B.ps) (pS p)=some (eY o):=(aZ (g:=pS) (f:=eY) dy p B.ps).trans (by rw [go];rfl)
  have fr:p∉(B.ps.take i).map Ar:=abo bk.np hx3
  have few:(B.ps.take i).length≤1000:=by have:=bk.lp;rw [Cg];lia
  have nx:B.ps.take i++[(p,o)]=B.ps.take (i+1):=by rw [BE,hx3];rfl
  show[an (gf jL) λM pk pm=>?_,an (gf pm) λM2 pk2 pm2=>?_,aV j1,lf (by exact hb0 _) rfl,lf (by exact hb1 _) gp]
  cases o with
  | none=>
   show[aV j2,uV p none pk few fr rfl,aV j3,uV p none (.there pk2) few fr rfl]
   rw [nx]
   exact ⟨j1,j2,j3,j4,(Bp _ _ _).trans ((pm2.cons _).cons _)⟩
  | some m=>
   obtain ⟨_,⟨th,hth⟩,mo,hmo⟩:=bk.has p m go
   have gt:getD (gh B.th) m=some (wR th):=(aZ (g:=λk:Int=>k) (f:=wR) eU m B.th).trans (by rw [hth];rfl)
   have gm:getD (iB B.mo) m=some (.int mo):=(aZ (g:=λk:Int=>k) (f:=V.int) eU m B.mo).trans (by rw [hmo];rfl)
   show[aV j1,lf (by exact hb0 _) rfl,nJ (by exact hb2 _) gt,aV j1,lf (by exact hb0 _) rfl,nJ (by exact hb3 _) gm,aV j2,uV p (some m) pk few fr (by show _=(match ao B.th m with | some x=>wR x | none=>.none);rw [hth]),aV j3,uV p (some m) (.there pk2) few fr (by show _=V.int ((ao B.mo m).getD 0);rw [hmo];rfl)]
   rw [nx]
   exact ⟨j1,j2,j3,j4,(Bp _ _ _).trans ((pm2.cons _).cons _)⟩
 ·refine e04 J λj1 j2 j3 j4 jL=>?_
  have lenp:(dP B.ps).length=B.ps.length:=by unfold dP cR;rw [Af]
  rw [Af,lenp,BU] at jL
  have mL:∀ q∈L,q∈L2:=λq h=>jL.mem_iff.mpr (.tail _ (.tail _ (.tail _ h)))
  have up2:∀ {q:Addr × aj} (M:ah),q∈c.R++L->q∈c.R++(M++L2):=λM h=>(List.mem_append.mp h).elim (Ag _) λw=>Aa _ (Aa _ (mL _ w))
  have hv:∀ M:ah,(v,aj.inst 797 d (wF s.x))∈c.R++(M++L2):=λM=>Aa _ (Aa _ (jL.mem_iff.mpr (.tail _ (.tail _ (.head _)))))
  show[aV j4,aU (.inst (by exact hv []) rfl rfl rfl),((oD (by exact λq h=>up2 [] (hm q h)) (by exact hv []) r).le (lE n 11 13 rfl)).useL]
  intro QL u L3 q
  refine sC q λps nd pl hps Be=>?_
  obtain ⟨its,q1',pL,e1,iok⟩:=Be
  subst q1'
  show[ph bn]
  have len:its.length=ps.length+1:=by have:=congrArg FD e1;rw [Af,AJ,Af] at this;exact this
  refine sr (rt F) (by rw [Af];lia) (λC D o v' hv'=>?_) ?_
  ·refine an (List.mem_map.mp hv') λit hit q1'=>?_
   subst q1'
   show(aI (Aa _ (pL.mem_iff.mpr (Ag _ (AN (f:=itC) hit)))) rfl rfl,⟨rfl,by rw [w9,ai0 (iok it hit)]⟩)
  have eL:(its.map itV).filterMap (rt F)=((none::ps.map some).map λo=>(bJ o,V.int (moO F o))).map (my V.str):=by
   rw [← e1,List.filterMap_map,show (rt F∘itV)=λi=>some (my V.str ((λo=>(bJ o,V.int (moO F o))) i.p)) from funext λi=>w9,List.filterMap_eq_map',Aw,Aw];rfl
  have ndp:∀ {ps:List (_root_.Fin 4)},ps.Nodup->(((none::ps.map some).map λo=>(bJ o,V.int (moO F o))).map Ar).Nodup:=λnd=>by
   rw [Aw]
   refine List.pairwise_map.mpr (List.Pairwise.imp (λh e=>h (rj e)) (List.nodup_cons.mpr ⟨λh=>(by refine an (List.mem_map.mp h) λO O q=>?_;cases q),List.pairwise_map.mpr (nd.imp λh e=>h (AH e))⟩))
  have lt:=tells_eq bk TT nd hps
  have tabl:∀ (g:Option Int->V) (w:V),(iC B g w B.ps).length=B.ps.length+1:=λg w=>by unfold iC cR;rw [AJ,Af]
  have lw:∀ {ps:List (_root_.Fin 4)},(∀ p,p∈ps↔xm F p=true)->∀ o∈(none::ps.map some),getD (iC B (dV B) .none B.ps) (bJ o)=some (cO F o)∧getD (iC B (mV B) (.int 0) B.ps) (bJ o)=some (.int (moO F o)):=λhps o ho=>by
   rcases List.mem_cons.mp ho with rfl | ho
   ·exact ⟨w8,w8⟩
   ·refine an (List.mem_map.mp ho) λp hp q1'=>?_
    subst q1'
    have hh:bu B p=true:=by rw [← TT.mem];exact (hps p).mp hp
    show(aE (Option.isSome_iff_exists.mp hh) λoo hoo=>?_,bS (TT.val p oo hoo) λv1 v2=>?_,⟨(zD p).trans (by rw [hoo,← v1];rfl),(zD p).trans (by rw [hoo,← v2];rfl)⟩)
  rw [eL]
  refine afs (by rw [Af,AJ,Af];lia) (ndp nd) λz=>?_
  have mL3:∀ q∈L2,q∈L3:=λq h=>pL.mem_iff.mpr (Aa _ h)
  have up3:∀ {q:Addr × aj} (M:ah),q∈c.R++L->q∈c.R++(M++L3):=λM h=>(List.mem_append.mp h).elim (Ag _) λw=>Aa _ (Aa _ (mL3 _ (mL _ w)))
  have hv3:∀ M:ah,(v,aj.inst 797 d (wF s.x))∈c.R++(M++L3):=λM=>Aa _ (Aa _ (mL3 _ (jL.mem_iff.mpr (.tail _ (.tail _ (.head _))))))
  show[aV j4,aU (.inst (by exact hv3 [_]) rfl rfl rfl),(yM (by exact λq h=>up3 [_] (hm q h)) (by exact hv3 [_]) r λps2 w nd2 hps2=>?_).le (lE n 12 13 rfl),aV j2,zy (fs:=(none::ps2.map some).map (cE F)) (gs:=iC B (dV B) .none B.ps) (Aa _ (.head _)) (Aa _ (.tail _ (.tail _ (mL3 _ (jL.mem_iff.mpr (.head _)))))) (by rw [tabl,Af,AJ,Af,tells_eq bk TT nd2 hps2]) (λp hp=>?_) ?_]
  ·refine an (List.mem_map.mp hp) λo ho q1'=>?_
   subst q1'
   exact ⟨aiz F o,(lw hps2 o ho).1⟩
  show[aV j3,zy (gs:=iC B (mV B) (.int 0) B.ps) (Aa _ (.tail _ (.head _))) (Aa _ (.tail _ (.tail _ (mL3 _ (jL.mem_iff.mpr (.tail _ (.head _))))))) (by rw [tabl,Af,AJ,Af,lt]) (λp hp=>?_) ?_]
  ·refine an (List.mem_map.mp hp) λo ho q1'=>?_
   subst q1'
   exact ⟨rfl,(lw hps o ho).2⟩
  exact ⟨L,Sub.trans ⟨[_,_,_],jL⟩ (Sub.trans ⟨_,pL⟩ (.trans .tail .tail)),kk⟩
theorem jB {s:OS} {t:Int} {F:Fs} {B:Bk} {A:BA} {T:FT} {L0:ah} (bk:yQ B) (TT:Tells F B) (hL:L.Perm (rq A B++L0)) (hm:∀ q∈aQ s,q∈c.R++L0) (hT:∀ q∈hZ T s.x,q∈c.R++L0) (r:aB s t F) {Q:ad} {X:ac} (kk:Q (.bool true) (rq A B++L0)):ae c (n+14) (.ref 1681) [.obj T.ft,.obj A.b] L Q X:=by
 show[ae.lock hL]
 have up:∀ {q:Addr × aj},q∈c.R++L0->q∈(hO c (rq A B)).R++L0:=λh=>(List.mem_append.mp h).elim (λw=>Ag _ (Ag _ w)) (Aa _)
 exact ai1 (c:=hO c (rq A B)) bk TT (λq h=>up (hm q h)) (λq h=>up (hT q h)) (λq h=>Aa _ h) r kk
end
end Mine
namespace Mine
open PySem PySem.W PyProof.Rows PySem.Calls
noncomputable def pth (k:Int):_root_.Fin 4:=if k=0 then 0 else if k=1 then 1 else 2
noncomputable def oth (k:Int):_root_.Fin 4:=if k=0 then 1 else if k=1 then 2 else 0
theorem am2 (k:Int):pth k≠3:=by unfold pth;split <;> (try split) <;> decide
theorem am3 (k:Int):oth k≠3:=by unfold oth;split <;> (try split) <;> decide
noncomputable def ocs (x:Int):List UInt8:=(CG (1+x / 3 % 30).toNat).map λ(k:Nat)=>(1+(x+5 * (k:Int)) % 255).toNat.toUInt8
theorem zF (x:Int):0 <(ocs x).length∧(ocs x).length≤30:=by
 unfold ocs
 rw [Af,Ba]
 exact ⟨Int.lt_toNat.mpr (Bv (by decide) (Bd (Bh _ (by decide)))),Int.toNat_le.mpr (by rw [BL];exact EF (AW _ (by decide)))⟩
noncomputable def tw (way x y:Int):d8:=
 if way=0 then .create (pth (x % 3))
 else if way <3 then .write (pth (x % 3)) (y % 50) (ocs x)
 else if way=3 then (if x / 3 % 2=0 then .trunc (pth (x % 3)) (y % 60) else .remove (pth (x % 3)))
 else if way=4 then .rename (pth (x % 3)) (oth (y % 3))
 else if way=5 then (if x % 2=0 then .mk else .rd)
 else if way=6 then .link (pth (x % 3)) (oth (y % 3))
 else if way=7 then .sym (pth (x % 3)) (oth (y % 3))
 else .mode (pth (x % 3)) (y % 512)
theorem af2 {way x y:Int}:(tw way x y).Ok:=by
 have a:=am2 (x % 3)
 have b:=am3 (y % 3)
 unfold tw
 repeat' split
 all_goals first
  | exact a
  | exact ⟨a,b⟩
  | trivial
  | exact ⟨a,Bh _ (by decide),Au (Int.add_le_add (Bf (AW y (by decide))) (Int.ofNat_le.mpr (zF x).2)) (by decide),(zF x).1⟩
  | exact ⟨a,Bh _ (by decide),Bf (Bv (AW y (by decide)) (by decide))⟩
  | exact ⟨a,Bh _ (by decide),Bv (AW y (by decide)) (by decide)⟩
theorem m30 (x:Int):0≤1+x / 3 % 30∧1+x / 3 % 30≤1000000000∧(1+x / 3 % 30).toNat≤1000000:=by lia
theorem aj5 {k:Int} (h0:0≤k) (h1:k <3):k=0∨k=1∨k=2:=by lia
theorem am5 {k:Int} (h0:0≤k) (h1:k <3):([V.str (Ab "/a"),.str (Ab "/b"),.str (Ab "/f/c")]:List V)[k.toNat]?=some (.str (pS (pth k))):=by
 rcases aj5 h0 h1 with rfl | rfl | rfl <;> rfl
theorem am6 {k:Int} (h0:0≤k) (h1:k <3):([V.str (Ab "/b"),.str (Ab "/f/c"),.str (Ab "/a")]:List V)[k.toNat]?=some (.str (pS (oth k))):=by
 rcases aj5 h0 h1 with rfl | rfl | rfl <;> rfl
section
variable {c:Cx} {n:Nat} {L:ah}
theorem uW {way x y:Int} (hw:0≤way∧way <9) (hx:0≤x) (hy:0≤y) {Q:ad} {X:ac} (kk:Q ((tw way x y).val) L):ae c (n+1) (.ref 1648) [.int way,.int x,.int y] L Q X:=by
 refine (oR λa=>@aa _ _ _ _ _ _ _ _ _ _ 12 ?_).fn
 intro GL
 show[oY (Am _ (Ah rfl ?_)),c5 (by decide),ui (by show 3≤_;decide) (by lia) (am5 (by lia) (by lia)),c5 (by decide),ui (by show 3≤_;decide) (by lia) (am6 (by lia) (by lia)),Am _ (Ah rfl (Ah rfl ?_))]
 have hw9:way=0∨(way=1∨way=2)∨way=3∨way=4∨way=5∨way=6∨way=7∨way=8:=by
  refine aE (exN hw.1) λk e=>?_
  rw [e] at hw ⊢
  exact (by decide:∀ k:Nat,k <9->(k:Int)=0∨((k:Int)=1∨(k:Int)=2)∨(k:Int)=3∨(k:Int)=4∨(k:Int)=5∨(k:Int)=6∨(k:Int)=7∨(k:Int)=8) k (Int.ofNat_lt.mp hw.2)
 rcases hw9 with rfl | h | rfl | rfl | rfl | rfl | rfl | rfl
 ·exact kk
 ·have wr:∀ (way:Int),(way=1∨way=2)->tw way x y=.write (pth (x % 3)) (y % 50) (ocs x):=λway h=>by
   unfold tw;rw [if_neg (by lia),if_pos (by lia)]
  have go:∀ (env:Env) (a:Addr) (Q:ad),Q (.bytes (ocs x)) L->ae (cxF c dD a) n (.type "bytes") [.list ((bN (1+x / 3 % 30)).filterMap λv=>some (.int (1+(x+5 * v.i) % 255)))] L Q X:=λenv a Q q=>by
   refine qJ (ns:=(CG (1+x / 3 % 30).toNat).map λ(k:Nat)=>1+(x+5 * (k:Int)) % 255) ?_ (λk hk=>?_) ?_ ?_
   ·rewrite [c6,Aw];unfold bN;rewrite [Aw];rfl
   ·refine an (List.mem_map.mp hk) λj O q1'=>?_;subst q1';lia
   ·rw [Af,Ba];exact (m30 x).2.2
   ·rw [Aw];exact q
  rcases h with rfl | rfl
  ·show[c5 (by decide),l8 (by decide) (Bu (by decide)),c5 (by decide),Am (1+x / 3 % 30) (Ah rfl (Ah (m30 x).1 (Ah (m30 x).2.1 ?_))),sr (λv=>some (.int (1+(x+5 * v.i) % 255))) (by unfold bN;rw [Af,Ba];exact (m30 x).2.2) (λC D o v hv=>?_) ?_]
   ·refine an (List.mem_map.mp hv) λk hk q1'=>?_
    subst q1'
    show(l7 (cr (by decide)),c5 (by decide),⟨rfl,rfl⟩)
   show[go (Dr dD a 1648) a _]
   rw [wr 1 (.inl rfl)] at kk
   exact kk
  ·show[c5 (by decide),l8 (by decide) (Bu (by decide)),c5 (by decide),Am (1+x / 3 % 30) (Ah rfl (Ah (m30 x).1 (Ah (m30 x).2.1 ?_))),sr (λv=>some (.int (1+(x+5 * v.i) % 255))) (by unfold bN;rw [Af,Ba];exact (m30 x).2.2) (λC D o v hv=>?_) ?_]
   ·refine an (List.mem_map.mp hv) λk hk q1'=>?_
    subst q1'
    show(l7 (cr (by decide)),c5 (by decide),⟨rfl,rfl⟩)
   show[go (Dr dD a 1648) a _]
   rw [wr 2 (.inr rfl)] at kk
   exact kk
 ·show[l8 (by decide) (Bu (by decide)),c5 (by decide)]
  by_cases h:x / 3 % 2=0
  ·show(d0 h,c5 (by decide),kq (by show _=(if x / 3 % 2=0 then d8.trunc _ _ else _).val;rw [if_pos h];rfl) kk)
  ·show(cQ h,kq (by show _=(if x / 3 % 2=0 then d8.trunc _ _ else _).val;rw [if_neg h];rfl) kk)
 ·exact kk
 ·show[c5 (by decide)]
  by_cases h:x % 2=0
  ·show(d0 h,kq (by show _=(if x % 2=0 then d8.mk else _).val;rw [if_pos h];rfl) kk)
  ·show(cQ h,kq (by show _=(if x % 2=0 then d8.mk else _).val;rw [if_neg h];rfl) kk)
 ·exact kk
 ·exact kk
 ·show(c5 (by decide),kk)
end
structure sB (F:Fs) (t:Int) (B:Bk) (k:Nat):Prop where
 np:(B.ps.map Ar).Nodup
 nt:(B.th.map Ar).Nodup
 nm:(B.mo.map Ar).Nodup
 lt:B.th.length≤k
 lm:B.mo.length≤k
 mem:∀ p,(F.pt p).isSome=(ao B.ps p).isSome
 dir:∀ o,ao B.ps 3=some o->o=none
 fil:∀ p,p≠3->∀ o,ao B.ps p=some o->∃ m n,o=some m∧F.pt p=some n∧ao B.th m=some (F.nd n).th∧ao B.mo m=some (F.nd n).mode∧m <B.top∧n≤t∧∀ q,(F.nd n).th=.lnk q->q≠3
 same:∀ p q m m' n n',p≠3->q≠3->ao B.ps p=some (some m)->ao B.ps q=some (some m')->F.pt p=some n->F.pt q=some n'->(m=m'↔n=n')
 oct:∀ m b,ao B.th m=some (.oct b)->b.length≤100
theorem sB.ok {F:Fs} {t:Int} {B:Bk} {k:Nat} (r:sB F t B k) (hk:k≤100):yQ B where
 np:=r.np
 nt:=r.nt
 nm:=r.nm
 lp:=by
  have:=pF (l2:=([0,1,2,3]:List (_root_.Fin 4))) r.np λp O=>(iA (by decide) (by decide) (by decide) (by decide):∀ p:_root_.Fin 4,p∈([0,1,2,3]:List (_root_.Fin 4))) p
  rw [Af] at this
  exact Ai this (by decide)
 lt:=Ai r.lt hk
 lm:=Ai r.lm hk
 has:=λp m h=>by
  have p3:p≠3:=λe=>by subst e;cases r.dir _ h
  refine e24 (r.fil p p3 _ h) λm' n e O h1 h2 O=>?_
  cases e
  exact ⟨p3,⟨_,h1⟩,_,h2⟩
 fil:=λp p3 h=>by refine oq (r.fil p p3 _ h) λm n e O=>?_;cases e
 oct:=r.oct
theorem sB.tells {F:Fs} {t:Int} {B:Bk} {k:Nat} (r:sB F t B k):Tells F B where
 mem:=r.mem
 val:=λp o h=>by
  by_cases p3:p=3
  ·subst p3
   have:=r.dir o h
   subst this
   exact ⟨rfl,rfl⟩
  ·refine e24 (r.fil p p3 o h) λm n q1' h1 h2 h3 O=>?_
   subst q1'
   refine ⟨?_,?_⟩
   ·show (match ao B.th m with | some x=>wR x | none=>.none)=(if p=3 then V.none else match F.pt p with | none=>.none | some n=>wR (F.nd n).th)
    rw [h2,if_neg p3,h1]
   ·show V.int ((ao B.mo m).getD 0)=.int (if p=3 then 493 else match F.pt p with | none=>0 | some n=>(F.nd n).mode)
    rw [h3,if_neg p3,h1];rfl
theorem jV {F F':Fs} {t:Int} {B:Bk} {k:Nat} {ps':List (_root_.Fin 4 × Option Int)} (r:sB F t B k) (hn:F'.nd=F.nd) (nd:(ps'.map Ar).Nodup)
 (src:∀ p,(ao ps' p=none∧F'.pt p=none)∨∃ q,(p=3↔q=3)∧ao ps' p=ao B.ps q∧F'.pt p=F.pt q):sB F' t { B with ps:=ps' } k where
 np:=nd
 nt:=r.nt
 nm:=r.nm
 lt:=r.lt
 lm:=r.lm
 mem:=λp=>by
  show (F'.pt p).isSome=(ao ps' p).isSome
  rcases src p with ⟨a,b⟩ | ⟨q,_,a,b⟩
  ·rw [a,b];rfl
  ·rw [a,b];exact r.mem q
 dir:=λo h=>by
  have h:ao ps' 3=some o:=h
  rcases src 3 with ⟨a,_⟩ | ⟨q,e,a,_⟩
  ·rw [a] at h;cases h
  ·rw [a,e.mp rfl] at h;exact r.dir o h
 fil:=λp p3 o h=>by
  have h:ao ps' p=some o:=h
  rcases src p with ⟨a,_⟩ | ⟨q,e,a,b⟩
  ·rw [a] at h;cases h
  ·rw [a] at h
   show(fg (r.fil q (λz=>p3 (e.mpr z)) o h) λm n h1 h2 h3=>?_,⟨m,n,h1,b.trans h2,by rw [hn];exact h3⟩)
 same:=λp q m m' n n' p3 q3 h1 h2 h3 h4=>by
  have h1:ao ps' p=some (some m):=h1
  have h2:ao ps' q=some (some m'):=h2
  rcases src p with ⟨a,_⟩ | ⟨x,e,a,b⟩
  ·rw [a] at h1;cases h1
  rcases src q with ⟨a',_⟩ | ⟨x',e',a',b'⟩
  ·rw [a'] at h2;cases h2
  exact r.same x x' m m' n n' (λz=>p3 (e.mpr z)) (λz=>q3 (e'.mpr z)) (a▸h1) (a'▸h2) (b▸h3) (b'▸h4)
 oct:=r.oct
theorem rx {F:Fs} {t:Int} {B:Bk} {k:Nat} (r:sB F t B k) (p:_root_.Fin 4):(dirOf F p).isSome=room B.ps p:=by
 unfold dirOf room
 by_cases q:p=2
 ·rw [if_pos q,decide_eq_false λe=>e q,r.mem 3];rfl
 ·rw [if_neg q,decide_eq_true q];rfl
theorem sB.less {F:Fs} {t t':Int} {B:Bk} {k k':Nat} (r:sB F t B k) (h:k≤k') (ht:t≤t'):sB F t' B k':=
 ⟨r.np,r.nt,r.nm,Ai r.lt h,Ai r.lm h,r.mem,r.dir,λp p3 o ho=>by
  refine e26 (r.fil p p3 o ho) λm n a1 a2 a3 a4 a5 a6 a7=>?_
  exact ⟨m,n,a1,a2,a3,a4,a5,by lia,a7⟩,r.same,r.oct⟩
def xc (k:Nat) (a:Option (Int × Fs)) (b:Option Bk):Prop:=
 (a=none∧b=none)∨∃ t F B,a=some (t,F)∧b=some B∧sB F t B k
theorem zG {F:Fs} {t:Int} {B:Bk} {k:Nat} {p:_root_.Fin 4} {fn:FN} (r:sB F t B k) (p3:p≠3) (h1:∀ b,fn.th=.oct b->b.length≤100) (h2:∀ q,fn.th=.lnk q->q≠3):
 xc (k+1) (om F t p fn) (dQ B p fn.th fn.mode (some B.top)):=by
 have rr:=rx r p
 have mm:=r.mem p
 unfold dQ bu
 cases e1:F.pt p with
 | some n=>
  rw [e1] at mm
  rw [← mm]
  exact .inl ⟨pD (.inr (by rw [e1];exact λh=>by cases h)),rfl⟩
 | none=>
  rw [e1] at mm
  rw [← mm,← rr]
  cases e2:dirOf F p with
  | none=>exact .inl ⟨pD (.inl e2),rfl⟩
  | some d=>
   have no:ao B.ps p=none:=by cases e:ao B.ps p with | none=>rfl | some o=>rw [e] at mm;cases mm
   refine .inr ⟨t+1,F.add p (t+1) fn,⟨aS B.ps p (some B.top),aS B.th B.top fn.th,aS B.mo B.top fn.mode,B.top+1⟩,q7 e2 e1,rfl,?_⟩
   have gp:∀ q,ao (aS B.ps p (some B.top)) q=if q=p then some (some B.top) else ao B.ps q:=λq=>cB p q _ _
   have gt:∀ m,ao (aS B.th B.top fn.th) m=if m=B.top then some fn.th else ao B.th m:=λm=>cB _ m _ _
   have gm:∀ m,ao (aS B.mo B.top fn.mode) m=if m=B.top then some fn.mode else ao B.mo m:=λm=>cB _ m _ _
   have fp:∀ q,(F.add p (t+1) fn).pt q=if q=p then some (t+1) else F.pt q:=λq=>rfl
   have fd:∀ n,(F.add p (t+1) fn).nd n=if n=t+1 then fn else F.nd n:=λn=>rfl
   refine ⟨cM r.np,cM r.nt,cM r.nm,Ai jU (BD r.lt),Ai jU (BD r.lm),λq=>?_,λo h=>?_,λq q3 o h=>?_,λa b m m' n n' a3 b3 ha hb fa fb=>?_,λm b h=>?_⟩
   ·show ((F.add p (t+1) fn).pt q).isSome=(ao (aS B.ps p (some B.top)) q).isSome
    rw [fp,gp]
    by_cases q0:q=p
    ·rw [if_pos q0,if_pos q0];rfl
    ·rw [if_neg q0,if_neg q0];exact r.mem q
   ·have h:ao (aS B.ps p (some B.top)) 3=some o:=h
    rw [gp,if_neg (Fw p3)] at h
    exact r.dir o h
   ·have h:ao (aS B.ps p (some B.top)) q=some o:=h
    rw [gp] at h
    by_cases q0:q=p
    ·rw [if_pos q0] at h
     refine ⟨B.top,t+1,(AH h).symm,by rw [fp,if_pos q0],?_,?_,by show B.top <B.top+1;lia,by lia,λx hx=>?_⟩
     ·show ao (aS B.th B.top fn.th) B.top=_
      rw [gt,if_pos rfl,fd,if_pos rfl]
     ·show ao (aS B.mo B.top fn.mode) B.top=_
      rw [gm,if_pos rfl,fd,if_pos rfl]
     ·rw [fd,if_pos rfl] at hx;exact h2 x hx
    ·rw [if_neg q0] at h
     refine e26 (r.fil q q3 o h) λm n a1 a2 a3 a4 a5 a6 a7=>?_
     have mne:m≠B.top:=by lia
     have nne:n≠t+1:=by lia
     refine ⟨m,n,a1,by rw [fp,if_neg q0];exact a2,?_,?_,by show m <B.top+1;lia,by lia,λx hx=>?_⟩
     ·show ao (aS B.th B.top fn.th) m=_
      rw [gt,if_neg mne,fd,if_neg nne];exact a3
     ·show ao (aS B.mo B.top fn.mode) m=_
      rw [gm,if_neg mne,fd,if_neg nne];exact a4
     ·rw [fd,if_neg nne] at hx;exact a7 x hx
   ·have ha:ao (aS B.ps p (some B.top)) a=some (some m):=ha
    have hb:ao (aS B.ps p (some B.top)) b=some (some m'):=hb
    rw [gp] at ha hb
    rw [fp] at fa fb
    have low:∀ x,x≠3->∀ m n,ao B.ps x=some (some m)->F.pt x=some n->m <B.top∧n≤t:=λx x3 m n h1 h2=>by
     refine e26 (r.fil x x3 _ h1) λm' n' a1 a2 O O a5 a6 O=>?_
     cases a1;rw [h2] at a2;cases a2;exact ⟨a5,a6⟩
    by_cases a0:a=p
    ·rw [if_pos a0] at ha fa
     cases ha;cases fa
     by_cases b0:b=p
     ·rw [if_pos b0] at hb fb;cases hb;cases fb;exact ⟨λO=>rfl,λO=>rfl⟩
     ·rw [if_neg b0] at hb fb
      have:=low b b3 _ _ hb fb
      constructor <;> intro h <;> lia
    ·rw [if_neg a0] at ha fa
     have la:=low a a3 _ _ ha fa
     by_cases b0:b=p
     ·rw [if_pos b0] at hb fb;cases hb;cases fb
      constructor <;> intro h <;> lia
     ·rw [if_neg b0] at hb fb
      exact r.same a b m m' n n' a3 b3 ha hb fa fb
   ·have h:ao (aS B.th B.top fn.th) m=some (.oct b):=h
    rw [gt] at h
    by_cases q0:m=B.top
    ·rw [if_pos q0] at h;exact h1 b (AH h)
    ·rw [if_neg q0] at h;exact r.oct m b h
theorem am7 {F:Fs} {t:Int} {B:Bk} {k:Nat} (r:sB F t B k):xc (k+1) (fMk F t) (dQ B 3 (.oct []) 493 none):=by
 have mm:=r.mem 3
 unfold dQ bu
 rw [← mm]
 cases e1:F.pt 3 with
 | some n=>exact .inl ⟨afk (by rw [e1];exact λh=>by cases h),rfl⟩
 | none=>
  have e2:room B.ps 3=true:=by unfold room;rw [decide_eq_true (show (3:_root_.Fin 4)≠2 by decide)];rfl
  rw [e2]
  refine .inr ⟨t+1,F.put 3 (some (t+1)),⟨aS B.ps 3 none,aS B.th B.top (.oct []),aS B.mo B.top 493,B.top+1⟩,zx e1,rfl,?_⟩
  have gp:∀ q,ao (aS B.ps 3 none) q=if q=3 then some none else ao B.ps q:=λq=>cB 3 q _ _
  have gt:∀ m,ao (aS B.th B.top (.oct [])) m=if m=B.top then some (.oct []) else ao B.th m:=λm=>cB _ m _ _
  have gm:∀ m,ao (aS B.mo B.top 493) m=if m=B.top then some 493 else ao B.mo m:=λm=>cB _ m _ _
  have fp:∀ q,(F.put 3 (some (t+1))).pt q=if q=3 then some (t+1) else F.pt q:=λq=>rfl
  refine ⟨cM r.np,cM r.nt,cM r.nm,Ai jU (BD r.lt),Ai jU (BD r.lm),λq=>?_,λo h=>?_,λq q3 o h=>?_,λa b m m' n n' a3 b3 ha hb fa fb=>?_,λm b h=>?_⟩
  ·show ((F.put 3 (some (t+1))).pt q).isSome=(ao (aS B.ps 3 none) q).isSome
   rw [fp,gp]
   by_cases q0:q=3
   ·rw [if_pos q0,if_pos q0];rfl
   ·rw [if_neg q0,if_neg q0];exact r.mem q
  ·have h:ao (aS B.ps 3 none) 3=some o:=h
   rw [gp,if_pos rfl] at h
   exact (AH h).symm
  ·have h:ao (aS B.ps 3 none) q=some o:=h
   rw [gp,if_neg q3] at h
   refine e26 (r.fil q q3 o h) λm n a1 a2 a3 a4 a5 a6 a7=>?_
   have mne:m≠B.top:=by lia
   refine ⟨m,n,a1,by rw [fp,if_neg q3];exact a2,?_,?_,by show m <B.top+1;lia,by lia,a7⟩
   ·show ao (aS B.th B.top (.oct [])) m=_
    rw [gt,if_neg mne];exact a3
   ·show ao (aS B.mo B.top 493) m=_
    rw [gm,if_neg mne];exact a4
  ·have ha:ao (aS B.ps 3 none) a=some (some m):=ha
   have hb:ao (aS B.ps 3 none) b=some (some m'):=hb
   rw [gp,if_neg a3] at ha
   rw [gp,if_neg b3] at hb
   rw [fp,if_neg a3] at fa
   rw [fp,if_neg b3] at fb
   exact r.same a b m m' n n' a3 b3 ha hb fa fb
  ·have h:ao (aS B.th B.top (.oct [])) m=some (.oct b):=h
   rw [gt] at h
   by_cases q0:m=B.top
   ·rw [if_pos q0] at h;cases h;exact BQ _
   ·rw [if_neg q0] at h;exact r.oct m b h
theorem xe {F:Fs} {t:Int} {B:Bk} {k:Nat} (r:sB F t B k):∀ j p,p≠3->(cv F j p=none∧dW B j p=none)∨∃ n m q b,cv F j p=some n∧dW B j p=some m∧q≠3∧ao B.ps q=some (some m)∧F.pt q=some n∧(F.nd n).th=.oct b
 | 0,_,_=>.inl ⟨rfl,rfl⟩
 | j+1,p,p3=>by
  rw [lB]
  unfold cv
  have mm:=r.mem p
  cases e:ao B.ps p with
  | none=>
   rw [e] at mm
   cases e1:F.pt p with
   | none=>exact .inl ⟨rfl,rfl⟩
   | some n=>rw [e1] at mm;cases mm
  | some o=>
   refine e26 (r.fil p p3 o e) λm n q1' a2 a3 a4 a5 a6 a7=>?_
   subst q1'
   rw [a2]
   dsimp only
   rw [if_neg p3,a3]
   cases e2:(F.nd n).th with
   | oct b=>exact .inr ⟨n,m,p,b,rfl,rfl,p3,e,a2,e2⟩
   | lnk q=>exact xe r j q (a7 q e2)
theorem uX {F:Fs} {t:Int} {B:Bk} {k:Nat} {p:_root_.Fin 4} {rc:d8} {g:FN->FN} {mf:Int->Int} (r:sB F t B k) (p3:p≠3) (hg:∀ fn b,fn.th=.oct b->(g fn).th=.oct (lA b rc)∧(g fn).mode=mf fn.mode) (hl:∀ b:List UInt8,b.length≤100->(lA b rc).length≤100)
 (hm:jy B p rc=match dW B 9 p with | none=>none | some m=>some { B with th:=aS B.th m (.oct (lA (thB B m) rc)),mo:=aS B.mo m (mf ((ao B.mo m).getD 0)) }):xc (k+1) (km F t p g) (jy B p rc):=by
 rw [hm]
 rcases xe r 9 p p3 with ⟨a,b⟩ | ⟨n,m,q,bs,a,b,q3,c1,c2,c3⟩
 ·rw [b];exact .inl ⟨pE a,rfl⟩
 ·rw [b]
  refine e24 (r.fil q q3 _ c1) λm' n' e e2 e3 e4 O=>?_
  cases e
  rw [c2] at e2;cases e2
  rw [c3] at e3
  have hT:thB B m=bs:=by unfold thB;rw [e3]
  have hM:(ao B.mo m).getD 0=(F.nd n).mode:=by rw [e4];rfl
  show[bS (hg (F.nd n) bs c3) λg1 g2=>?_,.inr ⟨t,F.set n (g (F.nd n)),{ B with th:=aS B.th m (.oct (lA (thB B m) rc)),mo:=aS B.mo m (mf ((ao B.mo m).getD 0)) },mI a,rfl,?_⟩]
  rw [hT,hM]
  have gt:∀ x,ao (aS B.th m (.oct (lA bs rc))) x=if x=m then some (.oct (lA bs rc)) else ao B.th x:=λx=>cB _ x _ _
  have gm:∀ x,ao (aS B.mo m (mf (F.nd n).mode)) x=if x=m then some (mf (F.nd n).mode) else ao B.mo x:=λx=>cB _ x _ _
  refine ⟨r.np,cM r.nt,cM r.nm,Ai jU (BD r.lt),Ai jU (BD r.lm),r.mem,r.dir,λx x3 o h=>?_,r.same,λx b h=>?_⟩
  ·refine e26 (r.fil x x3 o h) λmx nx q1' a2 a3 a4 a5 a6 a7=>?_
   subst q1'
   have iff:=r.same x q mx m nx n x3 q3 h c1 a2 c2
   by_cases z:nx=n
   ·have z2:mx=m:=iff.mpr z
    subst z z2
    refine ⟨mx,nx,rfl,a2,?_,?_,a5,a6,λy hy=>?_⟩
    ·show ao (aS B.th mx _) mx=_
     rw [gt,if_pos rfl,q8,g1]
    ·show ao (aS B.mo mx _) mx=_
     rw [gm,if_pos rfl,q8,g2]
    ·rw [q8,g1] at hy;cases hy
   ·have z2:mx≠m:=λe=>z (iff.mp e)
    refine ⟨mx,nx,rfl,a2,?_,?_,a5,a6,λy hy=>?_⟩
    ·show ao (aS B.th m _) mx=_
     rw [gt,if_neg z2,q9 z];exact a3
    ·show ao (aS B.mo m _) mx=_
     rw [gm,if_neg z2,q9 z];exact a4
    ·rw [q9 z] at hy;exact a7 y hy
  ·have h:ao (aS B.th m (.oct (lA bs rc))) x=some (.oct b):=h
   rw [gt] at h
   by_cases z:x=m
   ·rw [if_pos z] at h;cases h
    exact hl bs (r.oct m bs e3)
   ·rw [if_neg z] at h;exact r.oct x b h
theorem eV {F:Fs} {t:Int} {B:Bk} {k:Nat} (r:sB F t B k) {p:_root_.Fin 4} {n:Int} (h:F.pt p=some n):∃ o,ao B.ps p=some o:=by
 have:=r.mem p
 rw [h] at this
 exact Option.isSome_iff_exists.mp this.symm
theorem eW {F:Fs} {t:Int} {B:Bk} {k:Nat} (r:sB F t B k) {p:_root_.Fin 4} (h:F.pt p=none):ao B.ps p=none:=by
 have:=r.mem p
 rw [h] at this
 cases e:ao B.ps p with
 | none=>rfl
 | some o=>rw [e] at this;cases this
theorem af3 {F:Fs} {t:Int} {B:Bk} {k:Nat} {rc:d8} (r:sB F t B k) (ok:rc.Ok):xc (k+1) (dj F t rc) (jz B rc):=by
 cases rc with
 | create p=>exact zG (fn:=⟨.oct [],420⟩) r ok (λb h=>by cases h;exact BQ _) λq h=>by cases h
 | sym p q=>exact zG (fn:=⟨.lnk q,0⟩) r ok.1 (λb h=>by cases h) λx h=>by cases h;exact ok.2
 | mk=>exact am7 r
 | write p i oc=>
  show(e03 ok λp3 i0 i1 o0=>?_,uX (mf:=λx=>x) r p3 (λfn b h=>by unfold gW;rw [h];exact ⟨rfl,rfl⟩) (λb h=>by show (ovw b i.toNat oc).length≤100;rw [uO];exact Nat.max_le.mpr ⟨h,toN i0 i1⟩) rfl)
 | trunc p i=>
  show(dR ok λp3 i0 i1=>?_,uX (mf:=λx=>x) r p3 (λfn b h=>by unfold gT;rw [h];exact ⟨rfl,rfl⟩) (λb h=>by show (trn b i.toNat).length≤100;rw [uP];exact Int.toNat_le.mpr i1) rfl)
 | mode p x=>exact uX (mf:=λO=>x) r ok.1 (λfn b h=>⟨h,rfl⟩) (λb h=>h) rfl
 | remove p=>
  show xc _ (sA F t p) (match bu B p with | false=>none | true=>some { B with ps:=d9 B.ps p })
  unfold bu
  cases e:F.pt p with
  | none=>rw [eW r e];exact .inl ⟨uQ e,rfl⟩
  | some n=>
   refine aE (eV r e) λo ho=>?_
   rw [ho]
   refine .inr ⟨t,F.put p none,_,mJ e,rfl,(jV (F':=F.put p none) (ps':=d9 B.ps p) r rfl (rp r.np) λx=>?_).less (Br _) (BG _)⟩
   by_cases z:x=p
   ·exact .inl ⟨by rw [gV,if_pos z],by rw [z];exact aF⟩
   ·exact .inr ⟨x,Jg,by rw [gV,if_neg z],aG z⟩
 | rd=>
  show xc _ (fRd F t) (match bu B 3 with | false=>none | true=>match bu B 2 with | true=>none | false=>some { B with ps:=d9 B.ps 3 })
  unfold bu
  cases e:F.pt 3 with
  | none=>rw [eW r e];exact .inl ⟨rf (.inl e),rfl⟩
  | some n=>
   refine aE (eV r e) λo ho=>?_
   rw [ho]
   cases e2:F.pt 2 with
   | some n2=>
    refine aE (eV r e2) λo2 ho2=>?_
    rw [ho2]
    exact .inl ⟨rf (.inr (by rw [e2];exact λh=>by cases h)),rfl⟩
   | none=>
    rw [eW r e2]
    refine .inr ⟨t,F.put 3 none,_,by unfold fRd;rw [e,e2],rfl,(jV (F':=F.put 3 none) (ps':=d9 B.ps 3) r rfl (rp r.np) λx=>?_).less (Br _) (BG _)⟩
    by_cases z:x=3
    ·exact .inl ⟨by rw [gV,if_pos z],by rw [z];exact aF⟩
    ·exact .inr ⟨x,Jg,by rw [gV,if_neg z],aG z⟩
 | link p q=>
  show xc _ (ga F t p q) (match bu B p with | false=>none | true=>match !room B.ps q||bu B q with | true=>none | false=>some { B with ps:=aS B.ps q ((ao B.ps p).getD none) })
  unfold bu
  rw [← rx r q]
  cases e:F.pt p with
  | none=>rw [eW r e];exact .inl ⟨to e,rfl⟩
  | some n=>
   refine aE (eV r e) λo ho=>?_
   rw [ho]
   cases e2:dirOf F q with
   | none=>exact .inl ⟨on (.inl e2),rfl⟩
   | some d=>
    cases e3:F.pt q with
    | some n2=>
     refine aE (eV r e3) λo2 ho2=>?_
     rw [ho2]
     exact .inl ⟨on (.inr (by rw [e3];exact λh=>by cases h)),rfl⟩
    | none=>
     rw [eW r e3]
     refine .inr ⟨t,F.put q (some n),_,by unfold ga;rw [e,e2,e3],rfl,(jV (F':=F.put q (some n)) (ps':=aS B.ps q o) r rfl (cM r.np) λx=>?_).less (Br _) (BG _)⟩
     by_cases z:x=q
     ·exact .inr ⟨p,⟨λh=>absurd (z.symm.trans h) ok.2,λh=>absurd h ok.1⟩,by rw [cB,if_pos z,ho],by rw [z,e];exact aF⟩
     ·exact .inr ⟨x,Jg,by rw [cB,if_neg z],aG z⟩
 | rename p q=>
  show xc _ (oZ F t p q) (match bu B p with | false=>none | true=>match room B.ps q with | false=>none | true=>if ao B.ps q=ao B.ps p then some B else some { B with ps:=aS (d9 B.ps p) q ((ao B.ps p).getD none) })
  unfold bu
  rw [← rx r q]
  cases e:F.pt p with
  | none=>rw [eW r e];exact .inl ⟨rg e,rfl⟩
  | some n=>
   refine aE (eV r e) λo ho=>?_
   cases e2:dirOf F q with
   | none=>rw [ho];exact .inl ⟨wM e2,rfl⟩
   | some d=>
    refine fg (r.fil p ok.1 o ho) λm n' q1' a2 O=>?_
    subst q1'
    rw [e] at a2;cases a2
    have eq:(ao B.ps q=ao B.ps p)↔F.pt q=some n:=by
     rw [ho]
     cases e3:F.pt q with
     | none=>rw [eW r e3];exact ⟨λh=>(by cases h),λh=>(by cases h)⟩
     | some n2=>
      show[aE (eV r e3) λo2 ho2=>?_,fg (r.fil q ok.2 o2 ho2) λm2 n2' q1' b2 O=>?_]
      subst q1'
      rw [e3] at b2;cases b2
      rw [ho2]
      have:=r.same q p m2 m n2 n ok.2 ok.1 ho2 ho e3 e
      exact ⟨λh=>by rw [this.mp (AH (AH h))],λh=>by rw [this.mpr (AH h)]⟩
    by_cases z:F.pt q=some n
    ·rw [if_pos (eq.mpr z),ho]
     exact .inr ⟨t,F,B,by rw [mK e e2,if_pos z],rfl,r.less (Br _) (BG _)⟩
    ·have pq:q≠p:=λh=>z (h▸e)
     rw [if_neg λh=>z (eq.mp h),ho]
     refine .inr ⟨t,((F.put q none).put p none).put q (some n),_,by rw [mK e e2,if_neg z],rfl,(jV (F':=((F.put q none).put p none).put q (some n)) (ps':=aS (d9 B.ps p) q (some m)) r rfl (cM (rp r.np)) λx=>?_).less (Br _) (BG _)⟩
     by_cases y:x=q
     ·exact .inr ⟨p,⟨λh=>absurd (y.symm.trans h) ok.2,λh=>absurd h ok.1⟩,by rw [cB,if_pos y,ho],by rw [y,e];exact aF⟩
     ·by_cases w:x=p
      ·exact .inl ⟨by rw [cB,if_neg y,gV,if_pos w],by rw [aG y,w];exact aF⟩
      ·exact .inr ⟨x,Jg,by rw [cB,if_neg y,gV,if_neg w],by rw [aG y,aG w,aG y]⟩
theorem atk:sB F0 3 ⟨[],[],[],0⟩ 0 where
 np:=BB
 nt:=BB
 nm:=BB
 lt:=AL _
 lm:=AL _
 mem:=λO=>rfl
 dir:=λO h=>by cases h
 fil:=λO O O h=>by cases h
 same:=λO O O O O O O O h=>by cases h
 oct:=λO O h=>by cases h
noncomputable def bK:Nat->List d8->List (Int × d8)
 | _,[]=>[]
 | k,rc::rs=>((k:Int)+5,rc)::bK (k+1) rs
noncomputable def lD:List d8->Int->Fs->Option (Int × Fs)
 | [],t,F=>some (t,F)
 | rc::rs,t,F=>match dj F t rc with
  | some (t',F')=>lD rs t' F'
  | none=>none
theorem cw:∀ (rs:List d8) (k:Nat),(bK k rs).length=rs.length
 | [],_=>rfl
 | _::rs,k=>congrArg Fb (cw rs (k+1))
theorem ry:∀ (a b:List d8) (k:Nat),bK k (a++b)=bK k a++bK (k+a.length) b
 | [],b,k=>rfl
 | x::a,b,k=>by
  show ((k:Int)+5,x)::bK (k+1) (a++b)=((k:Int)+5,x)::(bK (k+1) a++bK (k+(a.length+1)) b)
  rw [ry a b (k+1),show k+1+a.length=k+(a.length+1) by lia]
theorem xf {rs:List d8} {k:Nat} {x:Int × d8} (h:x∈bK k rs):x.2∈rs:=by
 induction rs generalizing k with
 | nil=>cases h
 | cons rc rs ih=>
  cases h with
  | head=>exact .head _
  | tail _ h=>exact .tail _ (ih h)
theorem rz:∀ (a b:List d8) (t:Int) (F:Fs),lD (a++b) t F=(lD a t F).bind λx=>lD b x.1 x.2
 | [],b,t,F=>rfl
 | rc::a,b,t,F=>by
  show (match dj F t rc with | some (t',F')=>lD (a++b) t' F' | none=>none)=Option.bind (match dj F t rc with | some (t',F')=>lD a t' F' | none=>none) _
  cases dj F t rc with
  | none=>rfl
  | some x=>exact rz a b x.1 x.2
theorem rA:∀ (a b:List (Int × d8)) (q t:Int) (F:Fs),fB (a++b) q t F=(fB a q t F).bind λx=>fB b x.1 x.2.1 x.2.2
 | [],b,q,t,F=>rfl
 | x::a,b,q,t,F=>by
  show (match decide (q <x.1) with | true=>(match dj F t x.2 with | some (t',F')=>fB (a++b) x.1 t' F' | none=>none) | false=>fB (a++b) q t F)=Option.bind (match decide (q <x.1) with | true=>(match dj F t x.2 with | some (t',F')=>fB a x.1 t' F' | none=>none) | false=>fB a q t F) _
  cases decide (q <x.1) with
  | false=>exact rA a b q t F
  | true=>
   cases dj F t x.2 with
   | none=>rfl
   | some y=>exact rA a b x.1 y.1 y.2
theorem rB:∀ (rs:List d8) (k:Nat) (q t:Int) (F:Fs),(k:Int)+rs.length+4≤q->fB (bK k rs) q t F=some (q,t,F)
 | [],_,_,_,_,_=>rfl
 | rc::rs,k,q,t,F,h=>by
  rw [AJ] at h
  show (match decide (q <(k:Int)+5) with | true=>_ | false=>fB (bK (k+1) rs) q t F)=_
  rw [decide_eq_false (by lia)]
  exact rB rs (k+1) q t F (by lia)
theorem rC:∀ (rs:List d8) (k:Nat) (q t t':Int) (F F':Fs),q <(k:Int)+5->lD rs t F=some (t',F')->fB (bK k rs) q t F=some (if rs.length=0 then q else (k:Int)+rs.length+4,t',F')
 | [],k,q,t,t',F,F',_,h=>by cases h;rfl
 | rc::rs,k,q,t,t',F,F',h,e=>by
  have e:(match dj F t rc with | some (t',F')=>lD rs t' F' | none=>none)=some (t',F'):=e
  show (match decide (q <(k:Int)+5) with | true=>(match dj F t rc with | some (t',F')=>fB (bK (k+1) rs) ((k:Int)+5) t' F' | none=>none) | false=>_)=_
  rw [decide_eq_true h]
  cases e2:dj F t rc with
  | none=>rw [e2] at e;cases e
  | some x=>
   rw [e2] at e
   have:=rC rs (k+1) ((k:Int)+5) x.1 t' x.2 F' (by lia) e
   show fB (bK (k+1) rs) ((k:Int)+5) x.1 x.2=_
   rw [this,AJ,if_neg (Nat.succ_ne_zero rs.length)]
   by_cases z:rs.length=0
   ·rw [if_pos z,z];exact congrArg (λi:Int=>some (i,t',F')) (by lia)
   ·rw [if_neg z];exact congrArg (λi:Int=>some (i,t',F')) (by lia)
theorem af4:∀ {rs:List d8} {t t':Int} {F F':Fs},lD rs t F=some (t',F')->t'≤t+rs.length
 | [],_,_,_,_,h=>by cases h;show _≤_+(0:Int);lia
 | rc::rs,t,t',F,F',h=>by
  have h:(match dj F t rc with | some (t',F')=>lD rs t' F' | none=>none)=some (t',F'):=h
  cases e:dj F t rc with
  | none=>rw [e] at h;cases h
  | some x=>
   rw [e] at h
   have a:=af4 h
   have b:=uS (t':=x.1) (F':=x.2) e
   exact Au a (Au (BH b.2 _) (CO ((BJ t 1 rs.length).trans (congrArg (λi=>t+i) (BL 1 _)))))
theorem yR {rs:List d8} {t:Int} {F:Fs} (h:lD rs 3 F0=some (t,F)) {f:Nat} (hf:f≤rs.length):
 ∃ t1 F1,fB ((bK 0 rs).take f) 0 3 F0=some (if f=0 then 0 else 4+(f:Int),t1,F1)∧fB (bK 0 rs) (4+f) t1 F1=some (4+(rs.length:Int),t,F)∧t1≤3+f:=by
 have e0:rs.take f++rs.drop f=rs:=Bg f rs
 have lt:(rs.take f).length=f:=by rw [Cg];lia
 have ld:(rs.drop f).length=rs.length - f:=B8
 have h2:((lD (rs.take f) 3 F0).bind λx=>lD (rs.drop f) x.1 x.2)=some (t,F):=by rw [← rz,e0];exact h
 refine an (Option.bind_eq_some_iff.mp h2) λq1' h3 h4=>?_
 obtain ⟨t1,F1⟩:=q1'
 have en:bK 0 rs=bK 0 (rs.take f)++bK f (rs.drop f):=by
  have:=ry (rs.take f) (rs.drop f) 0
  rw [e0,lt,C9] at this
  exact this
 refine ⟨t1,F1,?_,?_,by have:=af4 h3;rw [lt] at this;exact this⟩
 ·have et:(bK 0 rs).take f=bK 0 (rs.take f):=by
   rw [en,List.take_append_of_le_length (by rw [cw,lt];exact AL _),Cc (by rw [cw,lt];exact AL _)]
  rw [et,rC _ 0 0 3 t1 F0 F1 (by lia) h3,lt]
  by_cases z:f=0
  ·rw [if_pos z,if_pos z]
  ·rw [if_neg z,if_neg z];exact congrArg (λi:Int=>some (i,t1,F1)) (by lia)
 ·rw [en,rA,rB _ 0 (4+f) t1 F1 (by rw [lt];lia)]
  show fB (bK f (rs.drop f)) (4+f) t1 F1=_
  rw [rC _ f (4+f) t1 t F1 F (by lia) h4,ld]
  by_cases z:rs.length - f=0
  ·rw [if_pos z];exact congrArg (λi:Nat=>some (4+(i:Int),t,F)) (EJ hf (Nat.sub_eq_zero_iff_le.mp z))
  ·rw [if_neg z];exact congrArg (λi:Int=>some (i,t,F)) ((BL _ _).trans (congrArg (λi:Nat=>(4:Int)+i) (Nat.add_sub_cancel' hf)))
theorem abp {rs:List d8} {t:Int} {F:Fs}:fB (bK 0 rs) (4+rs.length) t F=some (4+(rs.length:Int),t,F):=rB rs 0 _ t F (by lia)
theorem ai2 {h:Heap} {F:List Addr} {ns:List Int} {items:List Ae} (x:FC items ns):bT h F (ns.map V.int) items:=by
 induction x with
 | nil=>exact .nil
 | cons k t _ ih=>exact .cons (.int k t) ih
section
variable {c:Cx} {n:Nat} {L:ah} {Q:ad} {X:ac}
theorem am8 {l:Addr} {items:List Ae} {ns:List Int} {lo hi:Option Int} (hl:c.B.IsList l items.toArray) (hin:FC items ns) (hz:ns.length≤1000) (h:Q (.list (aC (ns.map .int) lo hi)) L):xT c n (.obj l) lo hi L Q X:=
 ⟨λA s r vl vu a O O S x sl pl pu=>by
  cases x
  obtain ⟨o,ho,hc,k,hd⟩:=hl
  have ho:=S.base _ _ ho
  have hs:bT s.heap (foot (c.R++L)) (ns.map V.int) items:=ai2 hin
  have el:items.length=(ns.map V.int).length:=hs.len
  have el2:(ns.map V.int).length=ns.length:=Af ..
  refine ⟨"list",_,⟨_,ho,hc⟩,slot_list_getitem.lookup,FK (items:=⟨items⟩) ⟨_,ho,hc,_,hd⟩ sl pl pu .none (by simp) ?_ (by rw [Bl,AQ];lia)⟩
  rw [slicePick_plain]
  have e:(⟨items⟩:Array Ae).size=(ns.map V.int).length:=el
  rw [e]
  exact lO S h (.list S.size_out (Ax _ rfl) (((hs.drop _).take _).mono (dN λO O e=>Aj _ e)))⟩
end
theorem abq (P:Params):dk.all (λC=>exmOne (K0 P) (.ref C) (.ref 38)==some true)=true:=by kernel_rfl
theorem aj6 {C:Addr} (h:dk.contains C=true) (P:Params):exmOne (K0 P) (.ref C) (.ref 38)=some true:=eq_of_beq (List.all_eq_true.mp (abq P) C (List.contains_iff_mem.mp h))
theorem ara (P:Params):exmOne (K0 P) (.ref 99) (.ref 99)=some true:=by kernel_rfl
noncomputable def abr (i:Int):Int:=if i <0 then -i else i
theorem uY (i:Int):0≤abr i:=by
 unfold abr;split
 ·exact Int.neg_nonneg_of_nonpos (Bf ‹_›)
 ·exact Int.not_lt.mp ‹_›
theorem am9 {ns:List Int} {i:Nat} (h:3 * i+3≤ns.length):∃ a b d,aC (ns.map V.int) (some (3 * (i:Int))) (some (3 * (i:Int)+3))=[.int a,.int b,.int d]:=by
 have hl:(ns.map V.int).length=ns.length:=Af ..
 have e:=ta (l:=ns.map V.int) (k:=3 * i) (s:=3) (by rw [hl];exact h)
 rw [Int.natCast_mul] at e
 have e:aC (ns.map V.int) (some (3 * (i:Int))) (some (3 * (i:Int)+3))=_:=e
 rw [e,← List.map_drop]
 have z:3≤(ns.drop (3 * i)).length:=by rw [B8];exact Dm h
 match hd:ns.drop (3 * i) with
 | a::b::d::r=>exact ⟨a,b,d,rfl⟩
 | []=>rw [hd] at z;exact absurd z (show ¬ 3≤0 by decide)
 | [_]=>rw [hd] at z;exact absurd z (show ¬ 3≤1 by decide)
 | [_,_]=>rw [hd] at z;exact absurd z (show ¬ 3≤2 by decide)
inductive aj7 (ns:List Int) (i:Nat) (m:Loc) (L':ah):Prop
 | mk (s:OS) (t:Int) (F:Fs) (B:Bk) (A:BA) (T:FT) (ra:Addr) (rs:List d8) (G:ah) (h0:m.lookup ("files":Str)=some (.obj T.ft)) (h1:m.lookup ("rows":Str)=some (.obj ra)) (h2:m.lookup ("book":Str)=some (.obj A.b)) (h3:m.lookup ("script":Str)=some (.list (ns.map V.int))) (h4:L'.Perm (aQ s++(hZ T s.x++((ra,aj.lst ((bK 0 rs).map wO))::(rq A B++G))))) (h5:aB s t F) (h6:sB F t B i) (h7:lD rs 3 F0=some (t,F)) (h8:(∀ rc∈rs,rc.Ok)) (h9:rs.length≤i) (h10:t≤3+i)
inductive af5 (m:Loc) (L':ah):Prop
 | mk (s:OS) (t1 t:Int) (F1 F:Fs) (B:Bk) (A:BA) (T:FT) (rs:List d8) (f:Nat) (X:ah) (h0:m.lookup ("rows":Str)=some (.list ((bK 0 rs).map wO))) (h1:m.lookup ("first":Str)=some (.int f)) (h2:m.lookup ("other":Str)=some (.obj T.ft)) (h3:m.lookup ("book":Str)=some (.obj A.b)) (h4:L'=aQ s++(rq A B++X)) (h5:(∀ q∈hZ T s.x,q∈X)) (h6:aB s t1 F1) (h7:fB (bK 0 rs) (4+f) t1 F1=some (4+(rs.length:Int),t,F)) (h8:sB F t B 6) (h9:(∀ rc∈rs,rc.Ok)) (h10:rs.length≤6) (h11:t1≤9) (h12:t≤9)
theorem ai3 {ns:List Int} (h:ns.length≤63):aC (ns.map V.int) none (some 63)=ns.map V.int:=by
 have hl:(ns.map V.int).length=ns.length:=Af ..
 have e:Cq (ns.map V.int).length 63=(ns.map V.int).length:=by unfold Cq;rw [if_neg (by decide),F4 (show ((ns.map V.int).length:Int)≤63 from Int.ofNat_le.mpr (Ai (BM hl) h)),Cf (Av _),AX]
 unfold aC
 show ((ns.map V.int).drop 0).take (Cq (ns.map V.int).length 63 - 0)=_
 rw [e,Nat.sub_zero,Ea,BU]
section
variable {c:Cx} {n:Nat} {L:ah}
theorem ana {Q:ad} {X:ac} {a b r:Int} (hb:0 <b) (e:a % b=r) (h:Q (.int r) L):bj c n (CC .Mod) (.int a) (.int b) L Q X:=c5 hb (e▸h)
theorem ai4 {Q:ad} {X:ac} {l l':List V} {lo hi:Option Int} (hz:l.length≤1000000) (e:aC l lo hi=l') (h:Q (.list l') L):xT c n (.list l) lo hi L Q X:=uj hz (e▸h)
theorem arb {Q:ad} {X:ac} {a b k:Int} (e:min a b=k) (h:Q (.int k) L):ae c n (.builtin "min") [.int a,.int b] L Q X:=xZ (e▸h)
theorem zH (hFr:c.Fr=[]) (a:Addr):∀ x∈(cxF c i9 a).Fr,x∈ig (Dr i9 a 1693):=λx hx=>by
 have e:(Cp (a+1) i9.scope.names [])=[]:=by kernel_rfl
 have hx:x∈(a::(Cp (a+1) i9.scope.names []).map EB)++c.Fr:=hx
 rw [e,hFr] at hx
 have hx:=List.mem_singleton.mp hx
 rw [hx]
 exact .head _
theorem ai5 {a:Addr} {m:Loc} {L':ah} (hFr:c.Fr=[]) (J:af5 m L'):fD (cxF c i9 a) (Dr i9 a 1693) (n+18) m (Cw (((tR (zI [190])).drop 3).drop 4) (Dr i9 a 1693)) L' (λO O=>V.none=.bool true) (λv O=>v=.bool true) (λO O=>False) (λO O=>False):=by
 obtain ⟨s,t1,t,F1,F,B,A,T,rs,f,X,j1,j2,j3,j4,rfl,hT,r1,ru,ag,oks,jr,jt1,jt⟩:=J
 show[@aa _ _ _ _ _ _ _ _ _ _ 12]
 intro GL
 have bk:=ag.ok (by lia)
 have lenN:((bK 0 rs).map wO).length=rs.length:=by rw [Af,cw]
 have okN:∀ x∈bK 0 rs,x.2.Ok:=λx hx=>oks _ (xf hx)
 have hT2:∀ q∈hZ T s.x,q∈rq A B++X:=λq h=>Aa _ (hT q h)
 show[aV j3,aV j1,aV j2,(ly okN ru (.refl _) (by exact hT2) r1 (by rw [cw];lia) λs3 hh1 r3=>?_).le (lE n 18 18 rfl)]
 obtain ⟨l3,rfl⟩:=hh1
 show[aV j1,sU (by lia),cQ (by rw [lenN];exact λh=>h rfl),aV j3,aV j4,(jB bk ag.tells (AD _ _ _) (by exact λq h=>Aa _ (Ag _ h)) (by exact λq h=>Aa _ (Aa _ (hT q h))) r3 ?_).le (lE n 14 18 rfl),aV j3,aV j1,aV j1,sU (by lia)]
 rw [lenN]
 refine (ly okN abp (AD _ _ _) (by exact hT2) r3 (by rw [cw];lia) λs4 hh1 r4=>?_).le (lE n 18 18 rfl)
 obtain ⟨l4,rfl⟩:=hh1
 show(aV j1,sU (by lia),cQ (by rw [lenN];exact λh=>h rfl),aV j3,aV j4,(jB bk ag.tells (AD _ _ _) (by exact λq h=>Aa _ (Ag _ h)) (by exact λq h=>Aa _ (Aa _ (hT q h))) r4 ?_).le (lE n 14 18 rfl),Ah (by exact zH hFr a),aV j3,ae.use (amx.le (lE n 3 18 rfl)) (λv L' q=>q.elim) λC L' q=>⟨λP=>q.1▸ara P,rfl⟩)
theorem arc {l:Addr} {items:List Ae} {ns:List Int} (hl:c.B.IsList l items.toArray) (hin:FC items ns) (hz:ns.length≤63) (hFr:c.Fr=[]):ae c (n+19) (.ref 1693) [.obj l] L (λv L'=>v=.bool true) (λO O=>False):=by
 refine (acx λa=>@nZ _ _ _ _ _ _ _ _ _ _ 12 3 (aj7 ns 6) ?_ λm1 L1 J=>?_).fn
 ·intro GL
  show[Am _ (Ah rfl ?_),am8 (ns:=ns) hl hin (Ai hz (by decide))]
  rw [ai3 hz]
  show[oY (Am _ (Ah rfl ?_)),(rm λT s r=>?_).le (lE n 15 18 rfl),oY λra=>?_,λb=>?_,xk λbp=>?_,oY λbt=>?_,oY λbm=>?_,Am _ (Ah (.there (.there (.there .here))) (Ah gj (Ah (by show 4≤_;decide) ?_))),Am _ (Ah rfl (Ah rfl ?_)),sU (by rw [Af];exact Ai hz (by decide)),l8 (by decide) (Bu (by decide))]
  have hlm:(ns.map V.int).length=ns.length:=Af ..
  refine aE (exN (x:=min (((ns.map V.int).length:Int) / 3) 6) (Int.le_min.mpr ⟨EM (Av _) (by decide),by decide⟩)) λK hK=>?_
  have K6:K≤6:=Int.ofNat_le.mp (hK▸FO _ _)
  have K3:K * 3≤ns.length:=Int.ofNat_le.mp (hlm▸Int.mul_le_of_le_ediv (by decide) (hK▸Gz _ _))
  show[arb hK,Am (K:Int) (Ah rfl (Ah (Av K) (Ah (Au (Int.ofNat_le.mpr K6) (by decide)) ?_))),exL (aj7 ns)]
  intro JJ
  refine Ah ⟨s,3,F0,⟨[],[],[],0⟩,⟨b,bp,bt,bm⟩,T,ra,[],L,rfl,rfl,rfl,rfl,?_,r,atk,rfl,λO h=>(by cases h),AL _,BG _⟩ (Ah (λi x m1 L2 hx J=>?_) λm1 L2 J=>?_)
  ·show((AD [_,_,_,_,_] (aQ s) _).trans (Ej _ ((AD [_,_,_,_,_] (hZ T s.x) L).trans (Ej _ ?_))),(AC (l₁:=[_,_,_,_])).trans (.cons _ (.cons _ aq9)))
  ·intro GJ
   obtain ⟨s1,t,F,B,A,T1,ra1,rs,G,j1,j2,j3,j4,jL,r1,ag,ru,oks,jr,jt⟩:=J
   have hi:i <K:=by
    have z:=(List.getElem?_eq_some_iff.mp hx).1
    unfold bN at z
    rwa [Af,Ba] at z
   have hx2:x=.int (i:Int):=by
    unfold bN at hx
    rw [AE,AX,ET hi] at hx
    exact (AH hx).symm
   subst hx2
   have i6:=B1 hi K6
   refine e30 (am9 (ns:=ns) (i:=i) (Ai (DJ 3 hi) (Nat.mul_comm K 3▸K3))) λw0 x0 y0 e3=>?_
   have bk:=ag.ok (Ai (DA i6) (by decide))
   have t9:t <900:=Az jt (Cj (CV (Int.ofNat_lt.mpr i6) 3) (by decide))
   have jt':t≤3+((i+1:Nat):Int):=Au jt (Ct (Int.ofNat_le.mpr (Br i)) 3)
   have hm:∀ q∈aQ s1,q∈c.R++L2:=λq h=>Aa _ (jL.mem_iff.mpr (Ag _ h))
   have hB:∀ q∈rq A B,q∈c.R++L2:=λq h=>Aa _ (jL.mem_iff.mpr (Aa _ (Aa _ (.tail _ (Ag _ h)))))
   show[aV j4,l7 (cr (by decide)),Am _ (Ah rfl ?_),l7 (cr (by decide)),Am _ (Ah rfl ?_),uj (by rw [hlm];exact Ai hz (by decide))]
   rw [e3]
   show[ph bn,sr (λv=>some (.int (abr v.i))) (by show 3≤_;decide) (λC D o v hv=>?_) ?_]
   ·have hv:v=.int w0∨v=.int x0∨v=.int y0:=by
     cases hv with
     | head=>exact .inl rfl
     | tail _ hv=>cases hv with
      | head=>exact .inr (.inl rfl)
      | tail _ hv=>exact .inr (.inr (List.mem_singleton.mp hv))
    rcases hv with rfl | rfl | rfl <;> exact asn ⟨rfl,rfl⟩
   show[c5 (by decide)]
   have a1:=uY w0
   obtain ⟨rc,hrc⟩:∃ rc,tw (abr w0 % 9) (abr x0) (abr y0)=rc:=⟨_,rfl⟩
   refine (uW ⟨Bh _ (by decide),AW _ (by decide)⟩ (uY x0) (uY y0) (kq (congrArg d8.val hrc) ?_)).le (lE n 1 18 rfl)
   have ok:rc.Ok:=hrc▸af2
   show[oY (Am _ (Ah rfl ?_)),aV j3,((wZ (A:=A) bk ok (by exact hB)).le (lE n 2 18 rfl)).useL]
   intro QL v L3 q
   show[Am _ (Ah rfl (Ah rfl ?_)),Ah (by exact zH hFr a),aV j1]
   rcases af3 ag ok with ⟨e1,e2⟩ | ⟨t',F',B',e1,e2,ag'⟩
   ·rw [e2] at q
    show[bS q]
    clear q
    intro q1' q2'
    subst q1'
    subst q2'
    refine ae.use ((yI ok jL (by exact λq h=>Ag _ h) r1 t9).le (lE n 16 18 rfl)) (λv L4 q=>?_) λC L4 q=>⟨λP=>aj6 q.1 P,?_⟩
    ·obtain ⟨_,_,_,e,_⟩:=q
     rw [e1] at e;cases e
    ·show[dR q]
     clear q
     intro _ q1' _
     subst q1'
     show(sW,⟨s1,t,F,B,A,T1,ra1,rs,G,j1,j2,j3,j4,jL,r1,ag.less (Br _) (BG _),ru,oks,ID jr,jt'⟩)
   ·rw [e2] at q
    show[an q]
    clear q
    intro A' q1' q2'
    subst q1'
    subst q2'
    have pL:(rq A' B'++L2).Perm (aQ s1++(rq A' B'++(hZ T1 s1.x++((ra1,aj.lst ((bK 0 rs).map wO))::(rq A B++G))))):=(jL.append_left _).trans (AD _ _ _)
    refine ae.use ((yI ok pL (by exact λq h=>Aa _ (Ag _ h)) r1 t9).le (lE n 16 18 rfl)) (λv L4 q=>?_) λC L4 q=>⟨λP=>aj6 q.1 P,?_⟩
    ·obtain ⟨s2,t2,F2,e,q1',q2',r2⟩:=q
     subst q1'
     show[aE q2']
     clear q2'
     intro l2 q3'
     subst q3'
     rw [e1] at e;cases e
     show[sW]
     have mr:∀ M N P:ah,(ra1,aj.lst ((bK 0 rs).map wO))∈c.R++(M++(N++(P++((ra1,aj.lst ((bK 0 rs).map wO))::(rq A B++G))))):=λM N P=>Aa _ (Aa _ (Aa _ (Aa _ (.head _))))
     show[aV j2,aU (.append (by exact mr _ _ _)),aV j2,aq3 (by exact mr _ _ _) (by rw [Af,cw];exact Ai jr (Ai (DA i6) (by decide))),ae.pre ((((List.perm_middle.append_left _).trans AC).append_left _).trans AC) (ur .here (by rw [Af,cw];exact Ai jr (Ai (DA i6) (by decide))) ?_)]
     have el:(bK 0 rs).map wO++[V.tup [.int ((((bK 0 rs).map wO).length:Int)+5),rc.val]]=(bK 0 (rs++[rc])).map wO:=by
      rw [ry,AT,Af,cw,C9];rfl
     have ru2:lD (rs++[rc]) 3 F0=some (t',F'):=by
      rw [rz,ru]
      show (match dj F t rc with | some (t',F')=>some (t',F') | none=>none)=_
      rw [e1]
     have b1:=uS e1
     refine ⟨_,t',F',B',A',T1,ra1,rs++[rc],rq A B++G,j1,j2,rfl,j4,?_,r2,ag',ru2,λx hx=>(List.mem_append.mp hx).elim (oks x) λh=>(List.mem_singleton.mp h)▸ok,by rw [As];exact BD jr,Au b1.2 (by rw [Int.natCast_succ,← BJ];exact BH jt 1)⟩
     rw [el]
     refine List.perm_middle.symm.trans (Ej _ ?_)
     refine (AG _ (AD _ _ _)).trans List.perm_middle.symm
    ·have:=q.2.2;rw [e1] at this;cases this
  ·obtain ⟨s1,t,F,B,A,T1,ra1,rs,G,j1,j2,j3,j4,jL,r1,ag,ru,oks,jr,jt⟩:=J
   have e6:(bN (K:Int)).length≤6:=by unfold bN;rw [Af,Ba];exact K6
   exact ⟨s1,t,F,B,A,T1,ra1,rs,G,j1,j2,j3,j4,jL,r1,ag.less e6 (BG _),ru,oks,Ai jr e6,Au jt (Ct (Int.ofNat_le.mpr e6) 3)⟩
 ·obtain ⟨s,t,F,B,A,T,ra,rs,G,j1,j2,j3,j4,jL,r,ag,ru,oks,jr,jt⟩:=J
  have pm:L1.Perm ((ra,aj.lst ((bK 0 rs).map wO))::(aQ s++(hZ T s.x++(rq A B++G)))):=jL.trans ((List.perm_middle.append_left _).trans AC)
  show[an (gf pm) λM pk pM=>?_,fD.freeze (l:=(bK 0 rs).map wO) j2 pk,@nZ _ _ _ _ _ _ _ _ _ _ 12 4 af5 ?_ λm2 L2 J=>ai5 hFr J]
  intro GL
  have bk:=ag.ok (by decide)
  have lenN:((bK 0 rs).map wO).length=rs.length:=by rw [Af,cw]
  show[(rm λT2 s2 r2=>?_).le (lE n 15 18 rfl),aV j1,aV j3]
  generalize hX:hZ T2 s2.x++(aQ s++(hZ T s.x++G))=X1
  have p1:(aQ s2++(hZ T2 s2.x++M)).Perm (rq A B++(aQ s2++X1)):=by
   rw [← hX]
   have a1:M.Perm (rq A B++(aQ s++(hZ T s.x++G))):=pM.trans (((AD _ _ _).append_left _).trans (AD _ _ _))
   exact ((a1.append_left _).append_left _).trans (((AD _ _ _).append_left _).trans (AD _ _ _))
  refine (jB bk ag.tells p1 (by exact λq h=>Aa _ (Aa _ (by rw [← hX];exact Aa _ (Ag _ h)))) (by exact λq h=>Aa _ (Aa _ (by rw [← hX];exact Aa _ (Aa _ (Ag _ h))))) r ?_).le (lE n 14 18 rfl)
  have n0:(0:Int) <(((bK 0 rs).map wO).length:Int)+1:=Int.lt_add_one_of_le (Av _)
  refine aE (exN (Bh ns.sum (ne0 n0))) λf hf=>?_
  have hfn:f≤((bK 0 rs).map wO).length:=Int.ofNat_le.mp (Ck (hf▸AW ns.sum n0))
  have hfl:f≤rs.length:=lenN▸hfn
  have f6:(f:Int)≤6:=Int.ofNat_le.mpr (Ai hfl jr)
  have jN:((bK 0 rs).map wO).length≤1000000:=by rw [lenN];exact Ai jr (by decide)
  show[aV j4,aip,sU jN,ana n0 hf,fg (yR ru hfl) λt1 F1 ru1 ru2 t1b=>?_]
  have hT2:∀ q∈hZ T2 s2.x,q∈rq A B++X1:=λq h=>Aa _ (by rw [← hX];exact Ag _ h)
  show[Am _ (Ah rfl ?_),ai4 (l':=((bK 0 rs).take f).map wO) jN (by rw [jn hfn,List.map_take]),(ly (λx hx=>oks _ (xf (Dq hx))) ru1 (AD (rq A B) (aQ s2) X1) (by exact hT2) r2 (by rw [Cg,cw];lia) λs3 hh1 r3=>?_).le (lE n 18 18 rfl)]
  obtain ⟨l3,rfl⟩:=hh1
  have t9:t1≤9:=Au t1b (Ct f6 3)
  have u9:t≤9:=jt
  by_cases h0:f=0
  ·show[cQ (by rw [h0];decide)]
   rw [if_pos h0]
   exact ⟨_,t1,t,F1,F,B,A,T2,rs,f,X1,rfl,rfl,rfl,j3,rfl,by rw [← hX];exact λq h=>Ag _ h,r3,ru2,ag,oks,jr,t9,u9⟩
  ·show[d0 (Int.ofNat_lt.mpr (Nat.pos_of_ne_zero h0))]
   rw [if_neg h0]
   show(fE (decide_eq_false λh=>h rfl),⟨_,t1,t,F1,F,B,A,T2,rs,f,X1,rfl,rfl,rfl,j3,rfl,by rw [← hX];exact λq h=>Ag _ h,r3,ru2,ag,oks,jr,t9,u9⟩)
end
end Mine
namespace Mine
set_option maxHeartbeats 0
open PySem PySem.W PyProof.Rows PySem.Calls
theorem af6 {w:World} {t:Sem Fin} {s:Ad} {R:Result->Ad->Prop} (hreg:s.asleep)
 (h:av (At pw w) callerA t (λfin s'=>∃ f,fin=.done f∧(R (.ok f) s'∧EO s'.gens=false)) (λe s'=>R (.error e) s'∧EO s'.gens=false) s):
 ∃ n r s' s'',runN (denote table) pw w n s ⟨t,.builtin "claim.caller" {},default,[]⟩=.halted (outcomeOf r) s'∧
  schedN (denote table) pw w n (.single s ⟨t,.builtin "claim.caller" {},default,[]⟩)=.halted (outcomeOf r) s'∧s'.forget=s''.forget∧R r s'':=by
 have hw:Sem.wp (At pw w) ⟨.builtin "claim.caller" {},none,none,[],none⟩ t (Sem.finPost (At pw w) ⟨.builtin "claim.caller" {},none,none,[],none⟩ λr s'=>R r s'∧EO s'.gens=false) (λe O s'=>R (.error e) s'∧EO s'.gens=false) default s:=by
  show[Fy _ _ t (λfin p' s' h'=>?_) (λO O O h'=>h') default s (h _ default caller_in (by decide+kernel) λO hx=>by cases hx),an h']
  clear h'
  intro f q1' hf
  subst q1'
  exact hf
 show(e43 (wp_halts_full (M:=At pw w) (R:=R) hreg hw) λn r s₁ s₂ hs hn hfo hR=>?_,⟨n,r,s₂,s₁,hn,hs,hfo,hR⟩)
theorem yS {c:ClaimW} (hp:c.prog=pw) {tree:List Ae->Sem Fin} {w:World} {s:Ad} {free:Addr->Prop} {gens:Prop} {kept:Heap->Prop} (hz:s.asleep) (hgens:s.gens=#[])
 (hspec:∀ args,c.pre args=true->IR args=true->∀ ord:List Bi->List Bi,(∀ l,(ord l).Perm l)->
  ∃ vs s₁,layAllW c.records (classAt s.heap) w.params ord args s=some (vs,s₁)∧
   av (At pw w) callerA (tree vs) (λfin s'=>∃ f,fin=.done f∧(c.Ends s args vs s₁ (.ok f) s'∧s'.os=s.os∧AllBare s'.gens∧kept s'.heap))
    (λe s'=>c.Ends s args vs s₁ (.error e) s'∧s'.os=s.os∧AllBare s'.gens∧kept s'.heap) s₁):
 c.CallFrom (λvs=>⟨tree vs,.builtin "claim.caller" {},default,[]⟩) w free gens kept s:=by
 intro args hpre hlay ord hord
 refine oq (hspec args hpre hlay ord hord) λvs s₁ hlaid hcode=>?_
 have hal:=layAllW_rest _ _ _ hlaid
 refine e43 (af6 (t:=tree vs) (s:=s₁) (R:=λr s'=>c.Ends s args vs s₁ r s'∧s'.os=s.os∧kept s'.heap) (Ee hal.2.2.2 hz)
  (ai hcode (λfin s' h=>e14 h λf e h1 h2 h3 h4=>⟨f,e,⟨h1,h2,h4⟩,EG h3⟩) λe s' h=>e03 h λh1 h2 h3 h4=>⟨⟨h1,h2,h4⟩,EG h3⟩)) λk r s' s'' hrun hsched hfo hR=>?_
 refine e04 (Shared.forget_eq hfo) λeh O O eo O=>dR hR λhcase hos hkp=>?_
 rw [← hp] at hrun hsched
 refine x2 _ s₁ ⟨hlaid,x3 k _ s' ⟨hsched,(hcase.congr eh).imp (λh=>?_) (λh=>?_),λO i x hx=>(by rw [hgens] at hx;cases hx),(by rw [eh];exact hkp),by rw [show s'.heap.life=s.heap.life from (runN_life _ _ _ hrun).trans hal.2.2.2],Shared.rest_eq (eo.trans hos)⟩⟩
 ·exact e15 h λv e d1 d2 d3 d4 d5=>⟨v,by rw [e];rfl,d1,d2,d3,λb o y O=>d4 b o y,d5⟩
 ·exact e35 h λv ob cls e d1 d2 d3 d4 d5=>⟨v,ob,cls,by rw [e];rfl,d1,d2,d3,d4,λb o y O=>d5 b o y⟩
theorem af7 {w:World} {s:Ad} {ns:List Int} {items:List Ae} {l:Addr} (x:mS w s.heap) (hl:s.heap.IsList l items.toArray) (hin:FC items ns) (hz:ns.length≤63) (hg:s.gens=#[]):
 av (At pw w) callerA (CR (.ref 1693) [.ref l]) (λv s'=>v=.bool true∧(∀ b o,s.heap.get? b=some o->s'.heap.get? b=some o)∧s'.os=s.os∧s'.gens=#[]) (λO O=>False) s:=by
 have W:=arc (c:=⟨w,s.heap,[],[]⟩) (n:=0) (L:=[]) hl hin hz rfl
 have S:St ⟨w,s.heap,[],[]⟩ [] s:=⟨λO O e=>e,x,λO h=>(by cases h),BB,λO h=>(by cases h),hg,λO h=>(by cases h)⟩
 refine ai (W.go callerA s [.ref l] ⟨rfl,by decide+kernel,by decide+kernel⟩ ⟨[],rfl,λO h=>(by cases h)⟩ S (.cons (.obj l) .nil)) (λv s' g=>?_) λe s' g=>?_
 ·obtain ⟨v',L',rfl,S',hv,ev⟩:=g
  cases hv
  exact ⟨rfl,λb o e=>ev.keep b o e λh=>(by cases h),ev.os,S'.gens⟩
 ·obtain ⟨_,_,q,_⟩:=g
  exact q
theorem ard:lJ.row.toRowW.promised:=⟨[.list []],by kernel_rfl,by kernel_rfl⟩
theorem anb:(frees lJ.row.toRowW&&lJ.row.toRowW.within.isEmpty)=true:=by kernel_rfl
theorem anc:opensWell pw=true:=by kernel_rfl
theorem ai6 {w:World} {s₁:Ad} {h0:Heap} {args:List WData} {vs:List Ae} {as:List Addr} (hpre:lJ.row.toRowW.claim.pre args=true) (hlay:IR args=true) (hrd:ReadsAllW lJ.row.toRowW.records (classAt h0) s₁.heap vs args as)
 (hwl:WellAll w.params s₁.heap vs args) (hlo:∀ a∈as,(a==HV)=false):∃ ns items l,args=[ofPy (PyData.list (ns.map PyData.int))]∧vs=[.ref l]∧s₁.heap.IsList l items.toArray∧FC items ns∧ns.length≤63:=by
 wrow_args hpre hlay hrd hwl hlo
 rename FC _ _=>hI
 rename Heap.IsList _ _ _=>hL
 rename ¬ _ <_=>hLen
 exact ⟨_,_,_,rfl,rfl,hL,hI,by lia⟩
theorem whole:lJ.Holds:=by
 show[⟨asb,yU,ard,⟨aob,anc,rfl⟩,ard.witness,λw=>⟨(sG w).1,λs' hs'=>?_⟩⟩,e26 ((sG w).2 s' hs') λs₀ s hf hg0 hT hz hgens hsz x=>?_,e04 (frees_parts (Bool.and_eq_true_iff.mp anb).1) λhsame hu ha hap hm=>?_,⟨s₀,hf,hg0,s,hT,λn hn=>?_,λO h=>(nomatch h),λO h=>(nomatch h),?_⟩]
 ·rw [List.mem_singleton.mp (show n∈[Ab "law"] from hn)]
  exact akt x
 refine yS (c:=lJ.row.toRowW.claim) rfl (tree:=λvs=>do match ← nsGet HL lJ.row.name with
  | some f=>do ret (← CR f vs)
  | none=>unsupported "claim.caller:no-such-global") hz hgens λargs hpre hlay ord hord=>?_
 refine aE (Option.isSome_iff_exists.mp (layAllW_isSome (R:=lJ.row.toRowW.records) (cl:=classAt s.heap) (P:=w.params) (ord:=ord) (λc h=>by cases h) args lJ.row.toRowW.args s (pre_splitW hpre).1)) λq1' hlaid=>?_
 cases q1' with | mk vs s₁=>?_
 have keeps:=layAllW_keeps _ _ _ hlaid
 have hal:=layAllW_rest _ _ _ hlaid
 refine ec (reads_layAllW hord _ _ _ hlaid hlay s₁.heap (λO O e=>e)) λas hrd hin hold=>?_
 have L:Laid lJ.row.toRowW.records w s s₁ args vs as:=⟨⟨ord,hord,hlaid⟩,hrd,hin,hold,keeps,hal.1.trans hgens,hal.2.2.1⟩
 have x₁:mS w s₁.heap:=x.keeps keeps
 refine e34 (ai6 (w:=w) hpre hlay hrd L.well (L.low (by rw [hsz];decide))) λnsI items l ea ev hL hI hz=>?_
 subst ev
 show[x2 _ s₁ ⟨hlaid,?_⟩,am (.of (wpAny_nsGet (EI (agk x₁)) ?_))]
 rw [show s₁.heap.nsMap HL lJ.row.name=some (.ref 1693) from (congrFun (bL (c3 x₁)) _).trans (by kernel_rfl)]
 refine am (ai (af7 x₁ hL hI hz L.gens) (λv s' g=>e03 g λe hk hos hgn=>?_) λO O z=>z.elim)
 have gw:GoodWG lJ.row.toRowW.claim (classAt s.heap) (ExcName.means s.heap) [ofPy (PyData.list (nsI.map PyData.int))] s₁ (.ok (.ret (.bool true))) s':=
  GoodW.toG ⟨.inl ⟨_,.bool true,[],rfl,λO=>rfl,ReadsW.bool true,postW_of (by wrow_shape) (by wtm_val) (by w_fin),λO=>⟨BB,λO hm=>(nomatch hm)⟩⟩,hk,hos,hgn⟩
 rw [← ea] at gw
 rw [e]
 show(dR (gw.laid (c:=lJ.row.toRowW.claim) hsame rfl (ident_freeW hu ha hap) L) λz1 z2 z3=>?_,.of (An ⟨_,rfl,z1,z2,z3,λq=>by cases q⟩))
end Mine
theorem PySem.Challenge.cw_np0227_01_holds : PySem.Challenge.rw_np0227_01.Holds :=
 Mine.whole
