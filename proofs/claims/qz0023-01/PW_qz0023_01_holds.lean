import PyProof.Rows.All
import Wide.All
import OpenK.AllK
import Wide.FinOn
import KE.KSortAsk
import KE.IntBitsLaws
import KE.KPop
import KE.KRevSl
import KE.KDictOf
import KE.KDictList
import KE.KSortedM
import OpenK.XOpen
import PyProof.EnumStmt
import PyProof.Draws
import PyProof.EnumMake
import PyProof.AttrMiss
import PyProof.IsiH_list
import PyProof.ZipIter
import PyProof.ListRange
import PyProof.NeKinds
import PyProof.Rows.SetFrom
import PyProof.SetRoads
import PyProof.DictTable
import PyProof.CompFree
import Open.Fast
import Lean
import PySem.Challenge.RW_qz0023_01
set_option Elab.async false
set_option maxRecDepth 100000
set_option maxHeartbeats 4000000
set_option bootstrap.genMatcherCode false
set_option compiler.extract_closed false
set_option compiler.reuse false
set_option genSizeOf false
set_option genInjectivity false
set_option genCtorIdx false
set_option tactic.hygienic false
set_option linter.all false
namespace Internal
open And renaming intro->Lw,right->It
open PySem renaming Around->bB,Comprehension->c9,DictEntry->dc,Program->eH,getItem->jN,isSubtype_stop->Wq,setItem->Tx,strKind->wu,Scope->cj,SetTable->eE,Shared->ao,Value->ai,World->bQ,assignEach->oy,assignInOrder->pW,codeAny->iV,codeAny_builtin->mY,intKind->cV,letOwnedTupleGo->rz,mainGlobals->lY,plainId_quiet->pR,rawInt->gf,sysModules->lS,wpAny->aq,wpAny_askSetting->zD,wpAny_bind->b8,wpAny_call_entry->iW,wpAny_field->mX,wpAny_holding->dD,wpAny_newObj_type->Ac,wpAny_pure->aF,wpAny_rule->mS,wpAny_seqItems->rg,wpAny_setField_rec->uK,wpAny_specialOf->sh,wpAny_standAt->mW
open PySem.Around renaming under_plainId->Ea
open Array renaming any_toList->SF,forIn_toList->SU,getElem?_eq_getElem->AB,getElem?_eq_none->Xu,getElem_toList->XM,length_toList->js,mem_toList_iff->W7,mk->zP,size_map->KA,toList->RP,toList_inj->Kv,toList_map->wZ,toList_push->KD
open PySem.AutoListH renaming list_append_list_val_0->TK
open Bool renaming and_eq_true->eO,and_eq_true_iff->lQ,and_false->C1,and_true->C5,decide_and->ag3,decide_eq_true->aco,decide_or->afk,eq_false_iff->Jk,eq_iff_iff->R9,false_eq_true->zG,false_ne_true->pQ,noConfusion->cu,not_eq_true->UA,not_eq_true'->uT,not_true->W3,or_eq_false_iff->z9,or_eq_true->wC,rec->nB
open PySem.BoolOp renaming And->abw
open PySem.Builtin.Dict renaming takeOut->TB
open PySem.Builtin.Frozenset renaming newClass->ajM,slot0->ajW,updateFrom->ajT
open PySem.Builtin.List renaming listExtendWith->XF,listSameRef->Ec
open PySem.Builtin.SmallTypes renaming nextOf->Vz,ownedTupleHandOut->Wj
open PySem.Builtin.Tuple renaming tupleHashOf->r8
open PySem.Builtin renaming divisionGoesByPylong->Sm
open PySem.Calls renaming call_function_entry->Jv,evalArgs_plain->U8,spliced_cons->U5
open PySem.Code renaming builtin->DO
open Eq renaming mpr->F9,ndrec->MY,symm->CR,trans->Fq
open PySem.SeqAt.EqAt renaming int_int->CW,int_str->IF,same->ID,str_int->IG,str_str->IE
open Exists renaming elim->RL
open PySem.F renaming slot_list_getattribute->DV,args_list_append_2->TJ,args_tuple_add_2->I4,args_tuple_iterator_next_1->VB,args_zip_next_1->Wo,called_set->sP,entry_dict_get->Tt,entry_extend_loop->Ws,entry_list_append->TG,entry_tuple_add->IZ,entry_tuple_iterator_next->VA,entry_zip_next->Wn,plain_extend_loop->D9,plain_set_new->Xk,slot_dict_delitem->TA,slot_dict_get->Js,slot_dict_len->T8,slot_list_append->Jt,slot_list_extend->TM,slot_list_lt->Ko,slot_list_pop->TP,slot_set_iter->Xt,slot_tuple_add->IY,slot_tuple_hash->Dg,slot_tuple_iterator_next->DQ,slot_zip_next->D7
open Fin renaming ext->u6
open PySem.Flow renaming next->AJ
open PySem.Heap renaming ExtBut->uF,IsTuple->JX,NewAttrErr->J1,SameBut->uE,get?_none_of_le->ui,get?_push_of_some->cS,get?_push_size->dX,get?_update_other->kZ,get?_update_self->kY,lt_size->eQ,size_push->sC
open PySem.Heap.IsSliceOf renaming new->Vx
open PySem.Heap.SameBut renaming update->Ab
open Iff renaming rfl->yA
open Int renaming add_assoc->W8,add_comm->KL,add_le_add->ahd,add_le_add_left->HB,add_le_add_right->ahc,add_left_inj->E8,add_nonneg->yr,add_sub_cancel->abJ,eq_ofNat_of_zero_le->Ax,fdiv->Ia,le_add_of_nonneg_right->aiY,le_of_eq->C9,le_of_lt->wo,le_trans->k5,lt_iff_le_and_ne->W',lt_irrefl->Xh,lt_of_le_of_lt->ug,lt_of_lt_of_le->I8,lt_trans->De,mul_le_mul_of_nonneg_right->ahe,mul_nonneg->OP,natCast_nonneg->Jx,natCast_succ_pos->Jz,not_le->wm,not_lt->zA,ofNat->j7,ofNat_le->sa,ofNat_lt->jm,toNat_natCast->VC,toNat_of_nonneg->Ui
open Int.ofNat renaming inj->rb
open PyProof.Rows.IntsAre renaming length->uN
open PySem.Keeper renaming boundFrame->DN,frame->DL,machine->DM
open List renaming all_cons->wa,all_eq_true->fE,all_map->RI,any_cons->U7,any_eq_false->K6,any_eq_true->Sa,append_assoc->pV,append_cons->Gf,append_inj'->ahA,append_nil->gv,casesOn->CT,cons_append->u4,count_cons->abZ,dropLast_concat->Fw,dropLast_concat_getLast->uq,dropLast_eq_take->Ju,drop_eq_getElem_cons->uM,drop_eq_nil_iff->Kn,drop_length->afV,drop_nil->Rz,drop_of_length_le->Ef,eq_nil_of_length_eq_zero->Jb,eraseDups_cons->Y6,eraseDups_nil->Y5,ext_getElem->WO,filter_cons->u3,filter_eq_self->Lo,filter_sublist->yG,find?_cons->wj,findIdx?_cons->uj,findIdx?_eq_none_iff->Ti,findIdx?_eq_some_iff_getElem->Dn,flatten_append->BV,flatten_cons->ag6,foldl_append->tw,foldl_cons->NY,forIn_cons->Am,forall_mem_cons->F6,getD_eq_getElem?_getD->sI,getElem?_append_left->oe,getElem?_append_right->za,getElem?_concat_length->Fx,getElem?_cons_zero->v8,getElem?_eq_getElem->dS,getElem?_eq_none_iff->pP,getElem?_eq_some_iff->b9,getElem?_map->fh,getElem?_set_ne->mN,getElem?_set_self->CQ,getElem?_toArray->sf,getElem_map->WQ,getElem_mem->C8,getElem_of_mem->WU,getElem_range->WR,getLast?_concat->abb,getLast_append_of_ne_nil->afT,getLast_cons->afM,getLast_mem->afP,isEmpty_iff->aah,length->n7,length_append->bM,length_cons->mO,length_drop->J5,length_dropLast->zH,length_eq_zero_iff->se,length_filter_le->jU,length_map->aP,length_nil->wO,length_range->Ou,length_set->lP,length_singleton->fK,length_take->m8,length_take_le->GS,length_take_le'->vj,length_take_of_le->ai1,lookup_cons->oj,lookup_eq_none_iff->YY,map->eJ,map_append->cD,map_congr_left->ES,map_cons->eP,map_id'->N1,map_inj_left->QU,map_map->pT,map_nil->Ca,map_reverse->Y1,map_take->tC,mem_append->dA,mem_append_left->gT,mem_append_right->tI,mem_cons->bU,mem_cons_of_mem->dM,mem_cons_self->dz,mem_filter->iK,mem_filterMap->Zb,mem_flatten->aiO,mem_iff_getElem->IT,mem_map->d4,mem_map_of_mem->xI,mem_of_getElem?->jL,mem_of_mem_head?->ah9,mem_of_mem_take->aiP,mem_range->Eh,mem_reverse->xj,mem_singleton->bV,mem_toArray->wb,nil_append->aiu,nodup_append->j5,nodup_cons->d0,nodup_nil->uf,not_mem_nil->lR,of_mem_zip->U4,pairwise_cons->uv,range->f',range_succ_eq_map->RH,rec->o7,reverse_cons->RA,reverse_perm->Y2,set->gj,size_toArray->eI,takeWhile_append_of_pos->afS,takeWhile_cons->F5,take_add_one->Xi,take_append_drop->BF,take_append_of_le_length->QD,take_left'->Gz,take_length->jY,take_nil->Ry,take_of_length_le->zJ,take_take->QE,toArray->gG,zipIdx_append->afZ,zip_eq_zipWith->Y0
open List.cons renaming inj->zp,injEq->nJ
open PySem.W.Looks renaming of_pure->U9
open PySem.NameKind renaming cell->UY,free->xo
open Nat renaming add_assoc->nO,add_le_add->mD,add_le_add_left->wd,add_le_add_right->HX,add_left_cancel->Wb,add_right_comm->abI,beq->qJ,beq_refl->zf,ble->pd,eq_of_beq_eq_true->v9,le_add_left->wY,le_add_right->pA,le_antisymm->dU,le_of_ble_eq_true->pC,le_of_eq->lD,le_of_lt->pB,le_of_lt_succ->yY,le_of_not_lt->CP,le_of_sub_eq_zero->J6,le_of_succ_le_succ->Jc,le_refl->bG,le_succ->mM,le_succ_of_le->AP,le_trans->bx,le_zero->KU,lt_irrefl->qW,lt_of_le_of_lt->iT,lt_of_le_of_ne->Il,lt_of_lt_of_le->eM,lt_of_not_le->WA,lt_of_succ_lt_succ->Km,lt_one_iff->Ra,lt_succ_of_le->W4,lt_succ_of_lt->Ej,lt_succ_self->oB,lt_trans->sj,min_eq_left->vi,min_le_left->Xg,min_le_right->Gg,mul_le_mul_left->IP,ne_of_gt->jR,ne_of_lt->eN,not_le->vQ,not_lt->fT,not_lt_zero->wA,pos_of_ne_zero->ai0,pred->Eg,strongRecOn->aau,sub_le->Gy,sub_self->zb,succ->n8,succ_add_eq_add_succ->Fz,succ_le_succ->mQ,succ_ne_self->XI,succ_pos->As,zero_add->nP,zero_le->dJ,zero_lt_one->ajI
open Nat.succ renaming inj->iS
open Ne renaming symm->b0
open PySem.Obj renaming data_mapFields->VD,mapDictKeys->Tv,mapSeq->dN,putName->Dd,putSet->KH
open PySem.W.OpenLaw renaming pre->ajA
open Option renaming bind_eq_some_iff->fg,bind_some->Jr,casesOn->zc,isNone_iff_eq_none->X3,isSome->ahO,isSome_iff_exists->mV,isSome_map->Mn,isSome_some->NO,map->wH,map_eq_some_iff->gV,map_some->Jo,mem_def->ah',none->Sx,none_or->PV,some_or->PU
open Option.some renaming inj->bF,injEq->eW
open Prod renaming ext->JM
open Prod.mk renaming inj->gb,injEq->B'
open PySem.PyData renaming keyHash->qV
open PyProof.Rows.F renaming entry_set_update_loop->Xb,plain_set_update_loop->KN
open PyProof.Rows renaming getItem_tuple->SO,lt_int->Sg,pairsOf->Ei,listItems_at->ow,seqObj->gX
open PySem.Challenge renaming pw_qz0023_01->Rw,rw_qz0023_01->uz
open PySem.MeetsSeq renaming list_pop_last->ajJ
open PySem.W.Fast renaming tw4187177175401517315->UK,tw5923862056798008813->UL
open PySem.W renaming getL->SD,listOf->EK,SharedT->gd,listOf->DU,boot_heap->jQ
open PySem.SetTable renaming fresh->Ky,grown->uP,insertAt->iY
open PySem.Shared renaming TypeIs->Kh,heap->JY
open PyProof.Rows.SortSt renaming mk'->Ku
open PySem.Str renaming ofString->aM
open PySem.Value renaming int->zK,isInt->Jn,isInt_shape->Dw,isStrOf->Dk,none->jl,ref->Kg,str->Dc,type->pS
open PySem.Value.ref renaming inj->zj
open PySem.Value.type renaming inj->pq
open PySem.W.WData renaming bool->Q7,int->Q8
open PySem.W.WShape renaming has->ajx
open PySem.pickOrder renaming go->Er
section
open Lean
def zinf:SourceInfo:=.original "".toRawSubstring 0 "".toRawSubstring 0
def znm(s:String):Name:=("Lean.Parser.Command."++s).toName
def zkey(x:Syntax):Syntax:=
 if !(x.getKind==znm "declaration"&&x[0][4].getNumArgs==0)then x else
 let p:=x[0][2].getNumArgs==0
 let x:=x.setArg 0 (x[0].setArg 2 mkNullNode)
 let d:=x[1]
 let y:=if d.getKind==znm "definition"&&x[0][1].getNumArgs==0 then x.setArg 1 ((d.setKind (znm "theorem")).setArg 2 ((d[2].setKind (znm "declSig")).setArg 1 d[2][1][0]))else
  if d.getKind==znm "abbrev" then (x.setArg 1 (d.setKind (znm "definition"))).setArg 0 (x[0].setArg 4 (mkNullNode #[.node zinf (znm "noncomputable") #[]]))else x
 if p then y else .node zinf (znm "in") #[.node zinf (znm "set_option") #[.atom zinf "set_option",mkIdent ("tactic.hygienic").toName,mkNullNode,.atom zinf "true"],.atom zinf "in",y]
def zpos(s:Syntax):MacroM Syntax:=match s.getHeadInfo with
 |.original _ p _ _=>if p==0 then Macro.throwUnsupported else pure (s.rewriteBottomUp λx=>zkey ((x).setInfo zinf))
 |_=>Macro.throwUnsupported
end
local macro_rules (kind:=Lean.Parser.Command.declaration)|s=>zpos s
local macro_rules (kind:=Lean.Parser.Command.mutual)|s=>zpos s
section
set_option autoImplicit true
def elimG{G:Prop}(k:∀P:Prop,(G->P)->P):G:=k G id
def oe0_2{A0 A1:Prop}{P:Prop}(h:A0/\A1)(f:A0->A1->P):P:=f h.1 h.2
def oe0_3{A0 A1 A2:Prop}{P:Prop}(h:A0/\A1/\A2)(f:A0->A1->A2->P):P:=f h.1 h.2.1 h.2.2
def oe0_4{A0 A1 A2 A3:Prop}{P:Prop}(h:A0/\A1/\A2/\A3)(f:A0->A1->A2->A3->P):P:=f h.1 h.2.1 h.2.2.1 h.2.2.2
def oe0_5{A0 A1 A2 A3 A4:Prop}{P:Prop}(h:A0/\A1/\A2/\A3/\A4)(f:A0->A1->A2->A3->A4->P):P:=f h.1 h.2.1 h.2.2.1 h.2.2.2.1 h.2.2.2.2
def oe0_6{A0 A1 A2 A3 A4 A5:Prop}{P:Prop}(h:A0/\A1/\A2/\A3/\A4/\A5)(f:A0->A1->A2->A3->A4->A5->P):P:=f h.1 h.2.1 h.2.2.1 h.2.2.2.1 h.2.2.2.2.1 h.2.2.2.2.2
def oe0_7{A0 A1 A2 A3 A4 A5 A6:Prop}{P:Prop}(h:A0/\A1/\A2/\A3/\A4/\A5/\A6)(f:A0->A1->A2->A3->A4->A5->A6->P):P:=f h.1 h.2.1 h.2.2.1 h.2.2.2.1 h.2.2.2.2.1 h.2.2.2.2.2.1 h.2.2.2.2.2.2
def oe0_8{A0 A1 A2 A3 A4 A5 A6 A7:Prop}{P:Prop}(h:A0/\A1/\A2/\A3/\A4/\A5/\A6/\A7)(f:A0->A1->A2->A3->A4->A5->A6->A7->P):P:=f h.1 h.2.1 h.2.2.1 h.2.2.2.1 h.2.2.2.2.1 h.2.2.2.2.2.1 h.2.2.2.2.2.2.1 h.2.2.2.2.2.2.2
def oe0_9{A0 A1 A2 A3 A4 A5 A6 A7 A8:Prop}{P:Prop}(h:A0/\A1/\A2/\A3/\A4/\A5/\A6/\A7/\A8)(f:A0->A1->A2->A3->A4->A5->A6->A7->A8->P):P:=f h.1 h.2.1 h.2.2.1 h.2.2.2.1 h.2.2.2.2.1 h.2.2.2.2.2.1 h.2.2.2.2.2.2.1 h.2.2.2.2.2.2.2.1 h.2.2.2.2.2.2.2.2
def oe0_10{A0 A1 A2 A3 A4 A5 A6 A7 A8 A9:Prop}{P:Prop}(h:A0/\A1/\A2/\A3/\A4/\A5/\A6/\A7/\A8/\A9)(f:A0->A1->A2->A3->A4->A5->A6->A7->A8->A9->P):P:=f h.1 h.2.1 h.2.2.1 h.2.2.2.1 h.2.2.2.2.1 h.2.2.2.2.2.1 h.2.2.2.2.2.2.1 h.2.2.2.2.2.2.2.1 h.2.2.2.2.2.2.2.2.1 h.2.2.2.2.2.2.2.2.2
def oe1_1{bu:Sort _}{A0:bu->Prop}{P:Prop}(h:∃x0,A0 x0)(f:∀x0,A0 x0->P):P:=h.elim λx0 h=>f x0 h
def oe1_2{bu:Sort _}{A0 A1:bu->Prop}{P:Prop}(h:∃x0,A0 x0/\A1 x0)(f:∀x0,A0 x0->A1 x0->P):P:=h.elim λx0 h=>f x0 h.1 h.2
def ei1_2{bu:Sort _}{A0 A1:bu->Prop}(x0:bu)(h0:A0 x0)(h1:A1 x0):∃x0,A0 x0/\A1 x0:=⟨x0,h0,h1⟩
def oe1_3{bu:Sort _}{A0 A1 A2:bu->Prop}{P:Prop}(h:∃x0,A0 x0/\A1 x0/\A2 x0)(f:∀x0,A0 x0->A1 x0->A2 x0->P):P:=h.elim λx0 h=>f x0 h.1 h.2.1 h.2.2
def ei1_3{bu:Sort _}{A0 A1 A2:bu->Prop}(x0:bu)(h0:A0 x0)(h1:A1 x0)(h2:A2 x0):∃x0,A0 x0/\A1 x0/\A2 x0:=⟨x0,h0,h1,h2⟩
def oe1_4{bu:Sort _}{A0 A1 A2 A3:bu->Prop}{P:Prop}(h:∃x0,A0 x0/\A1 x0/\A2 x0/\A3 x0)(f:∀x0,A0 x0->A1 x0->A2 x0->A3 x0->P):P:=h.elim λx0 h=>f x0 h.1 h.2.1 h.2.2.1 h.2.2.2
def ei1_4{bu:Sort _}{A0 A1 A2 A3:bu->Prop}(x0:bu)(h0:A0 x0)(h1:A1 x0)(h2:A2 x0)(h3:A3 x0):∃x0,A0 x0/\A1 x0/\A2 x0/\A3 x0:=⟨x0,h0,h1,h2,h3⟩
def oe1_5{bu:Sort _}{A0 A1 A2 A3 A4:bu->Prop}{P:Prop}(h:∃x0,A0 x0/\A1 x0/\A2 x0/\A3 x0/\A4 x0)(f:∀x0,A0 x0->A1 x0->A2 x0->A3 x0->A4 x0->P):P:=h.elim λx0 h=>f x0 h.1 h.2.1 h.2.2.1 h.2.2.2.1 h.2.2.2.2
def ei1_5{bu:Sort _}{A0 A1 A2 A3 A4:bu->Prop}(x0:bu)(h0:A0 x0)(h1:A1 x0)(h2:A2 x0)(h3:A3 x0)(h4:A4 x0):∃x0,A0 x0/\A1 x0/\A2 x0/\A3 x0/\A4 x0:=⟨x0,h0,h1,h2,h3,h4⟩
def oe2_1{bu:Sort _}{bT:Sort _}{A0:bu->bT->Prop}{P:Prop}(h:∃x0 x1,A0 x0 x1)(f:∀x0 x1,A0 x0 x1->P):P:=h.elim λx0 h=>h.elim λx1 h=>f x0 x1 h
def ei2_1{bu:Sort _}{bT:Sort _}{A0:bu->bT->Prop}(x0:bu)(x1:bT)(h0:A0 x0 x1):∃x0 x1,A0 x0 x1:=⟨x0,x1,h0⟩
def oe2_2{bu:Sort _}{bT:Sort _}{A0 A1:bu->bT->Prop}{P:Prop}(h:∃x0 x1,A0 x0 x1/\A1 x0 x1)(f:∀x0 x1,A0 x0 x1->A1 x0 x1->P):P:=h.elim λx0 h=>h.elim λx1 h=>f x0 x1 h.1 h.2
def ei2_2{bu:Sort _}{bT:Sort _}{A0 A1:bu->bT->Prop}(x0:bu)(x1:bT)(h0:A0 x0 x1)(h1:A1 x0 x1):∃x0 x1,A0 x0 x1/\A1 x0 x1:=⟨x0,x1,h0,h1⟩
def oe2_3{bu:Sort _}{bT:Sort _}{A0 A1 A2:bu->bT->Prop}{P:Prop}(h:∃x0 x1,A0 x0 x1/\A1 x0 x1/\A2 x0 x1)(f:∀x0 x1,A0 x0 x1->A1 x0 x1->A2 x0 x1->P):P:=h.elim λx0 h=>h.elim λx1 h=>f x0 x1 h.1 h.2.1 h.2.2
def ei2_3{bu:Sort _}{bT:Sort _}{A0 A1 A2:bu->bT->Prop}(x0:bu)(x1:bT)(h0:A0 x0 x1)(h1:A1 x0 x1)(h2:A2 x0 x1):∃x0 x1,A0 x0 x1/\A1 x0 x1/\A2 x0 x1:=⟨x0,x1,h0,h1,h2⟩
def oe2_4{bu:Sort _}{bT:Sort _}{A0 A1 A2 A3:bu->bT->Prop}{P:Prop}(h:∃x0 x1,A0 x0 x1/\A1 x0 x1/\A2 x0 x1/\A3 x0 x1)(f:∀x0 x1,A0 x0 x1->A1 x0 x1->A2 x0 x1->A3 x0 x1->P):P:=h.elim λx0 h=>h.elim λx1 h=>f x0 x1 h.1 h.2.1 h.2.2.1 h.2.2.2
def ei2_4{bu:Sort _}{bT:Sort _}{A0 A1 A2 A3:bu->bT->Prop}(x0:bu)(x1:bT)(h0:A0 x0 x1)(h1:A1 x0 x1)(h2:A2 x0 x1)(h3:A3 x0 x1):∃x0 x1,A0 x0 x1/\A1 x0 x1/\A2 x0 x1/\A3 x0 x1:=⟨x0,x1,h0,h1,h2,h3⟩
def oe2_5{bu:Sort _}{bT:Sort _}{A0 A1 A2 A3 A4:bu->bT->Prop}{P:Prop}(h:∃x0 x1,A0 x0 x1/\A1 x0 x1/\A2 x0 x1/\A3 x0 x1/\A4 x0 x1)(f:∀x0 x1,A0 x0 x1->A1 x0 x1->A2 x0 x1->A3 x0 x1->A4 x0 x1->P):P:=h.elim λx0 h=>h.elim λx1 h=>f x0 x1 h.1 h.2.1 h.2.2.1 h.2.2.2.1 h.2.2.2.2
def ei2_5{bu:Sort _}{bT:Sort _}{A0 A1 A2 A3 A4:bu->bT->Prop}(x0:bu)(x1:bT)(h0:A0 x0 x1)(h1:A1 x0 x1)(h2:A2 x0 x1)(h3:A3 x0 x1)(h4:A4 x0 x1):∃x0 x1,A0 x0 x1/\A1 x0 x1/\A2 x0 x1/\A3 x0 x1/\A4 x0 x1:=⟨x0,x1,h0,h1,h2,h3,h4⟩
def oe2_6{bu:Sort _}{bT:Sort _}{A0 A1 A2 A3 A4 A5:bu->bT->Prop}{P:Prop}(h:∃x0 x1,A0 x0 x1/\A1 x0 x1/\A2 x0 x1/\A3 x0 x1/\A4 x0 x1/\A5 x0 x1)(f:∀x0 x1,A0 x0 x1->A1 x0 x1->A2 x0 x1->A3 x0 x1->A4 x0 x1->A5 x0 x1->P):P:=h.elim λx0 h=>h.elim λx1 h=>f x0 x1 h.1 h.2.1 h.2.2.1 h.2.2.2.1 h.2.2.2.2.1 h.2.2.2.2.2
def ei2_6{bu:Sort _}{bT:Sort _}{A0 A1 A2 A3 A4 A5:bu->bT->Prop}(x0:bu)(x1:bT)(h0:A0 x0 x1)(h1:A1 x0 x1)(h2:A2 x0 x1)(h3:A3 x0 x1)(h4:A4 x0 x1)(h5:A5 x0 x1):∃x0 x1,A0 x0 x1/\A1 x0 x1/\A2 x0 x1/\A3 x0 x1/\A4 x0 x1/\A5 x0 x1:=⟨x0,x1,h0,h1,h2,h3,h4,h5⟩
def oe3_2{bu:Sort _}{bT:Sort _}{dH:Sort _}{A0 A1:bu->bT->dH->Prop}{P:Prop}(h:∃x0 x1 x2,A0 x0 x1 x2/\A1 x0 x1 x2)(f:∀x0 x1 x2,A0 x0 x1 x2->A1 x0 x1 x2->P):P:=h.elim λx0 h=>h.elim λx1 h=>h.elim λx2 h=>f x0 x1 x2 h.1 h.2
def ei3_2{bu:Sort _}{bT:Sort _}{dH:Sort _}{A0 A1:bu->bT->dH->Prop}(x0:bu)(x1:bT)(x2:dH)(h0:A0 x0 x1 x2)(h1:A1 x0 x1 x2):∃x0 x1 x2,A0 x0 x1 x2/\A1 x0 x1 x2:=⟨x0,x1,x2,h0,h1⟩
def oe3_4{bu:Sort _}{bT:Sort _}{dH:Sort _}{A0 A1 A2 A3:bu->bT->dH->Prop}{P:Prop}(h:∃x0 x1 x2,A0 x0 x1 x2/\A1 x0 x1 x2/\A2 x0 x1 x2/\A3 x0 x1 x2)(f:∀x0 x1 x2,A0 x0 x1 x2->A1 x0 x1 x2->A2 x0 x1 x2->A3 x0 x1 x2->P):P:=h.elim λx0 h=>h.elim λx1 h=>h.elim λx2 h=>f x0 x1 x2 h.1 h.2.1 h.2.2.1 h.2.2.2
def ei3_4{bu:Sort _}{bT:Sort _}{dH:Sort _}{A0 A1 A2 A3:bu->bT->dH->Prop}(x0:bu)(x1:bT)(x2:dH)(h0:A0 x0 x1 x2)(h1:A1 x0 x1 x2)(h2:A2 x0 x1 x2)(h3:A3 x0 x1 x2):∃x0 x1 x2,A0 x0 x1 x2/\A1 x0 x1 x2/\A2 x0 x1 x2/\A3 x0 x1 x2:=⟨x0,x1,x2,h0,h1,h2,h3⟩
def oe3_5{bu:Sort _}{bT:Sort _}{dH:Sort _}{A0 A1 A2 A3 A4:bu->bT->dH->Prop}{P:Prop}(h:∃x0 x1 x2,A0 x0 x1 x2/\A1 x0 x1 x2/\A2 x0 x1 x2/\A3 x0 x1 x2/\A4 x0 x1 x2)(f:∀x0 x1 x2,A0 x0 x1 x2->A1 x0 x1 x2->A2 x0 x1 x2->A3 x0 x1 x2->A4 x0 x1 x2->P):P:=h.elim λx0 h=>h.elim λx1 h=>h.elim λx2 h=>f x0 x1 x2 h.1 h.2.1 h.2.2.1 h.2.2.2.1 h.2.2.2.2
def ei3_5{bu:Sort _}{bT:Sort _}{dH:Sort _}{A0 A1 A2 A3 A4:bu->bT->dH->Prop}(x0:bu)(x1:bT)(x2:dH)(h0:A0 x0 x1 x2)(h1:A1 x0 x1 x2)(h2:A2 x0 x1 x2)(h3:A3 x0 x1 x2)(h4:A4 x0 x1 x2):∃x0 x1 x2,A0 x0 x1 x2/\A1 x0 x1 x2/\A2 x0 x1 x2/\A3 x0 x1 x2/\A4 x0 x1 x2:=⟨x0,x1,x2,h0,h1,h2,h3,h4⟩
def oe3_6{bu:Sort _}{bT:Sort _}{dH:Sort _}{A0 A1 A2 A3 A4 A5:bu->bT->dH->Prop}{P:Prop}(h:∃x0 x1 x2,A0 x0 x1 x2/\A1 x0 x1 x2/\A2 x0 x1 x2/\A3 x0 x1 x2/\A4 x0 x1 x2/\A5 x0 x1 x2)(f:∀x0 x1 x2,A0 x0 x1 x2->A1 x0 x1 x2->A2 x0 x1 x2->A3 x0 x1 x2->A4 x0 x1 x2->A5 x0 x1 x2->P):P:=h.elim λx0 h=>h.elim λx1 h=>h.elim λx2 h=>f x0 x1 x2 h.1 h.2.1 h.2.2.1 h.2.2.2.1 h.2.2.2.2.1 h.2.2.2.2.2
def oe3_8{bu:Sort _}{bT:Sort _}{dH:Sort _}{A0 A1 A2 A3 A4 A5 A6 A7:bu->bT->dH->Prop}{P:Prop}(h:∃x0 x1 x2,A0 x0 x1 x2/\A1 x0 x1 x2/\A2 x0 x1 x2/\A3 x0 x1 x2/\A4 x0 x1 x2/\A5 x0 x1 x2/\A6 x0 x1 x2/\A7 x0 x1 x2)(f:∀x0 x1 x2,A0 x0 x1 x2->A1 x0 x1 x2->A2 x0 x1 x2->A3 x0 x1 x2->A4 x0 x1 x2->A5 x0 x1 x2->A6 x0 x1 x2->A7 x0 x1 x2->P):P:=h.elim λx0 h=>h.elim λx1 h=>h.elim λx2 h=>f x0 x1 x2 h.1 h.2.1 h.2.2.1 h.2.2.2.1 h.2.2.2.2.1 h.2.2.2.2.2.1 h.2.2.2.2.2.2.1 h.2.2.2.2.2.2.2
def oe4_2{bu:Sort _}{bT:Sort _}{dH:Sort _}{jd:Sort _}{A0 A1:bu->bT->dH->jd->Prop}{P:Prop}(h:∃x0 x1 x2 x3,A0 x0 x1 x2 x3/\A1 x0 x1 x2 x3)(f:∀x0 x1 x2 x3,A0 x0 x1 x2 x3->A1 x0 x1 x2 x3->P):P:=h.elim λx0 h=>h.elim λx1 h=>h.elim λx2 h=>h.elim λx3 h=>f x0 x1 x2 x3 h.1 h.2
def ei4_2{bu:Sort _}{bT:Sort _}{dH:Sort _}{jd:Sort _}{A0 A1:bu->bT->dH->jd->Prop}(x0:bu)(x1:bT)(x2:dH)(x3:jd)(h0:A0 x0 x1 x2 x3)(h1:A1 x0 x1 x2 x3):∃x0 x1 x2 x3,A0 x0 x1 x2 x3/\A1 x0 x1 x2 x3:=⟨x0,x1,x2,x3,h0,h1⟩
def oe4_3{bu:Sort _}{bT:Sort _}{dH:Sort _}{jd:Sort _}{A0 A1 A2:bu->bT->dH->jd->Prop}{P:Prop}(h:∃x0 x1 x2 x3,A0 x0 x1 x2 x3/\A1 x0 x1 x2 x3/\A2 x0 x1 x2 x3)(f:∀x0 x1 x2 x3,A0 x0 x1 x2 x3->A1 x0 x1 x2 x3->A2 x0 x1 x2 x3->P):P:=h.elim λx0 h=>h.elim λx1 h=>h.elim λx2 h=>h.elim λx3 h=>f x0 x1 x2 x3 h.1 h.2.1 h.2.2
def oe4_4{bu:Sort _}{bT:Sort _}{dH:Sort _}{jd:Sort _}{A0 A1 A2 A3:bu->bT->dH->jd->Prop}{P:Prop}(h:∃x0 x1 x2 x3,A0 x0 x1 x2 x3/\A1 x0 x1 x2 x3/\A2 x0 x1 x2 x3/\A3 x0 x1 x2 x3)(f:∀x0 x1 x2 x3,A0 x0 x1 x2 x3->A1 x0 x1 x2 x3->A2 x0 x1 x2 x3->A3 x0 x1 x2 x3->P):P:=h.elim λx0 h=>h.elim λx1 h=>h.elim λx2 h=>h.elim λx3 h=>f x0 x1 x2 x3 h.1 h.2.1 h.2.2.1 h.2.2.2
def oe5_5{bu:Sort _}{bT:Sort _}{dH:Sort _}{jd:Sort _}{tV:Sort _}{A0 A1 A2 A3 A4:bu->bT->dH->jd->tV->Prop}{P:Prop}(h:∃x0 x1 x2 x3 x4,A0 x0 x1 x2 x3 x4/\A1 x0 x1 x2 x3 x4/\A2 x0 x1 x2 x3 x4/\A3 x0 x1 x2 x3 x4/\A4 x0 x1 x2 x3 x4)(f:∀x0 x1 x2 x3 x4,A0 x0 x1 x2 x3 x4->A1 x0 x1 x2 x3 x4->A2 x0 x1 x2 x3 x4->A3 x0 x1 x2 x3 x4->A4 x0 x1 x2 x3 x4->P):P:=h.elim λx0 h=>h.elim λx1 h=>h.elim λx2 h=>h.elim λx3 h=>h.elim λx4 h=>f x0 x1 x2 x3 x4 h.1 h.2.1 h.2.2.1 h.2.2.2.1 h.2.2.2.2
def ei5_5{bu:Sort _}{bT:Sort _}{dH:Sort _}{jd:Sort _}{tV:Sort _}{A0 A1 A2 A3 A4:bu->bT->dH->jd->tV->Prop}(x0:bu)(x1:bT)(x2:dH)(x3:jd)(x4:tV)(h0:A0 x0 x1 x2 x3 x4)(h1:A1 x0 x1 x2 x3 x4)(h2:A2 x0 x1 x2 x3 x4)(h3:A3 x0 x1 x2 x3 x4)(h4:A4 x0 x1 x2 x3 x4):∃x0 x1 x2 x3 x4,A0 x0 x1 x2 x3 x4/\A1 x0 x1 x2 x3 x4/\A2 x0 x1 x2 x3 x4/\A3 x0 x1 x2 x3 x4/\A4 x0 x1 x2 x3 x4:=⟨x0,x1,x2,x3,x4,h0,h1,h2,h3,h4⟩
def oe13_3{bu:Sort _}{bT:Sort _}{dH:Sort _}{jd:Sort _}{tV:Sort _}{Rb:Sort _}{Rc:Sort _}{Rd:Sort _}{Rf:Sort _}{Rg:Sort _}{Rh:Sort _}{Ri:Sort _}{Rj:Sort _}{A0 A1 A2:bu->bT->dH->jd->tV->Rb->Rc->Rd->Rf->Rg->Rh->Ri->Rj->Prop}{P:Prop}(h:∃x0 x1 x2 x3 x4 x5 x6 x7 x8 x9 lC o5 o6,A0 x0 x1 x2 x3 x4 x5 x6 x7 x8 x9 lC o5 o6/\A1 x0 x1 x2 x3 x4 x5 x6 x7 x8 x9 lC o5 o6/\A2 x0 x1 x2 x3 x4 x5 x6 x7 x8 x9 lC o5 o6)(f:∀x0 x1 x2 x3 x4 x5 x6 x7 x8 x9 lC o5 o6,A0 x0 x1 x2 x3 x4 x5 x6 x7 x8 x9 lC o5 o6->A1 x0 x1 x2 x3 x4 x5 x6 x7 x8 x9 lC o5 o6->A2 x0 x1 x2 x3 x4 x5 x6 x7 x8 x9 lC o5 o6->P):P:=h.elim λx0 h=>h.elim λx1 h=>h.elim λx2 h=>h.elim λx3 h=>h.elim λx4 h=>h.elim λx5 h=>h.elim λx6 h=>h.elim λx7 h=>h.elim λx8 h=>h.elim λx9 h=>h.elim λlC h=>h.elim λo5 h=>h.elim λo6 h=>f x0 x1 x2 x3 x4 x5 x6 x7 x8 x9 lC o5 o6 h.1 h.2.1 h.2.2
def noNS{α:Type _}{a:α}{C:Prop}(h:none=some a):C:=nomatch h
def noSN{α:Type _}{a:α}{C:Prop}(h:some a=none):C:=nomatch h
@[elab_as_elim] theorem rwE{α:Sort _}{b:α}{motive:α->Prop}{a:α}(h:a=b)(k:motive b):motive a:=Eq.ndrec (motive:=motive) k h.symm
@[elab_as_elim] theorem rwF{α:Sort _}{b:α}{motive:α->Prop}{a:α}(h:b=a)(k:motive b):motive a:=Eq.ndrec (motive:=motive) k h
def trF{α:Sort _}{a b c:α}(h:b=a)(k:b=c):a=c:=h▸k
def trG{α:Sort _}{a b c:α}(h:a=b)(k:a=c):b=c:=h▸k
section
open Lean
@[reducible]def qE(s a b:String):String:=b.intercalate (s.splitOn a)
@[reducible]def HM:List String->List String->String
 |a::as,b::bs=>a++(b++HM as bs)
 |as,_=>String.join as
@[reducible]def eS(s:String)(l:List String):String:=HM (s.splitOn "#") l
@[reducible]def Rk(a:List Syntax)(st:List (Name×List Syntax))(t:String):List (Name×List Syntax):=
 let d:=String.ofList t.toList.tail
 let c:=t.front
 if t=="" then st else
 if c== '<' then(d.toName,[])::st else
 match st with
 |[]=>[]
 |(k,xs)::r=>
  if c== ')' then
   match r with
   |[]=>[]
   |(l,ys)::q=>(l,.node .none k xs.toArray.reverse::ys)::q
  else(k,(if c== '$' then a.getD d.length .missing else if c== '\'' then mkIdent d.toName else .atom .none (if c== '`' then(if d=="" then "(" else d)else t))::xs)::r
@[reducible]def mC(s:String)(a:List Syntax):Syntax:=
 match((qE (qE (qE (qE (qE s "^" "<PyProof.Rows.tacticWalk_at_ walk_at <str ") "}" ") ) )") "{" "(tacticSeq (tacticSeq1Indented <null") "(" "<Lean.Parser.Tactic.") "[" "<Lean.Parser.Term.").splitOn " ").foldl (Rk a) [(nullKind,[])]with
 |[(_,[x])]=>x
 |_=>.missing
@[reducible]def ku(s:Syntax)(k:String):Bool:=s.getKind==("Lean.Parser."++k).toName
@[reducible]def rY(l:List String):String:=eS "(first first <null <group | { # } ) ) )" [" } ) <group | { ".intercalate l]
@[reducible]def HN(s:String):String:=eS "(withReducible with_reducible { # } )" [s]
@[reducible]def yR(w f s:String):String:=eS "(# # [app '# <null # ) ) )" [w,w,f,s]
@[reducible]def HO(s:Syntax):Syntax:=
 let s:=if ku s "Tactic.rcasesPatLo" && s[1].getNumArgs==0 then s[0]else s
 if ku s "Tactic.rcasesPatMed" && s[0].getNumArgs==1 then s[0][0]else s
@[reducible]def HP(b:Name):List Syntax->List Syntax×List Syntax
 |[]=>([],[])
 |q::qs=>
  let(xs,ts):=HP (b.appendAfter "q") qs
  let o:=HO q
  if ku o "Tactic.rcasesPat.one" && o[0].getId != `rfl then(o[0]::xs,ts)
  else if ku o "Tactic.rcasesPat.ignore" then(mkIdent `zz::xs,ts)
  else(mkIdent b::xs,mC "(obtain obtain <null $ ) <null ) <null := <null $. ) ) )" [if ku q "Tactic.rcasesPatLo" then q[0]else q,mkIdent b]::ts)
@[reducible]def HQ(n:Nat):String:="".pushn '.' n
@[reducible]def Cs(a b:String)(n:Nat):Nat->String
 |0=>""
 |k+1=>Cs a b n k++eS "#$##" [a,HQ (n+k),b]
@[reducible]def Ct(t:String)(n:Nat):Nat->List String
 |0=>[]
 |k+1=>qE (qE t "@" (toString (n-k-1))) "!" (toString (k+1))::Ct t n k
@[reducible]def Rl(s:Syntax):MacroM Syntax:=
 let o:=HO s[1][0]
 let ps:=o[1].getSepArgs.toList
 let n:=ps.length
 if !ku o "Tactic.rcasesPat.tuple"||n<2||s[2].getNumArgs+s[3].getNumArgs !=2 then Macro.throwUnsupported else
 let e:=s[3][1][0]
 let c:=if ku e "Term.app" && e[0].getId.toString.endsWith "_some" then e[1][e[1].getNumArgs-1]else e
 let(xs,ts):=HP (if c.isIdent then c.getId.appendAfter "zq" else `zq) ps
 let has:=c.isIdent && (xs.map (·.getId)).contains c.getId
 let old:=e.isIdent && has
 let last:="(rcases rcases <null (elimTarget <null ) $ ) ) <null with (rcasesPatLo $. <null ) ) ) )"
 let t:=eS (if old then "(revert revert <null $ ) ) ; (intro intro <null $.. ) ) ; # ; (tacticTry_ try { (clear clear <null $.. ) ) } )" else if c.isIdent && !has then "# ; (tacticTry_ try { (clear clear <null $.... ) ) } )" else "#")
  [rY (Ct "(refine refine [app 'oe@_! <null $.. [fun fun [basicFun $... <null ) => [syntheticHole ? _ ) ) ) ) ) )" n n++[last])]
 pure (mC (if ts.isEmpty then eS "(paren ` { # } `) )" [t]else
  rY [eS "(focus focus { (refine refine [app 'elimG <null [fun fun [basicFun <null 'zzP 'zzk ) <null ) => [syntheticHole ? _ ) ) ) ) ) ) ; # # ; (allGoals all_goals { (refine refine [app 'zzk <null [syntheticHole ? _ ) ) ) ) ; (clear clear <null 'zzk 'zzP ) ) } ) } )" [t,Cs " ; " "" 5 ts.length],last])
  ([e,s[1][0],if old then mkIdent `zzo else e,.node .none nullKind xs.toArray,c]++ts))
@[reducible]def HS(w:String)(s:Syntax):MacroM Syntax:=
 let a:=s[1][1].getSepArgs
 let n:=a.size
 let h:=a.getD 0 .missing
 if !ku s[1] "Term.anonymousCtor"||n<3||ku h "Term.byTactic"||h.getId== `rfl then Macro.throwUnsupported else
 pure (mC (qE (rY (Ct "(& & [app 'ei@_! $ ) )" n (n-1)++["(& & [noImplicitLambda no_implicit_lambda% $. ) )"])) "&" w) [.node .none nullKind a,s[1]])
@[reducible]def Rm(s:Syntax):MacroM Syntax:=
 let h:=s[1][0][1]
 if s[1].getNumArgs !=1||s[1][0][0].getNumArgs+s[2].getNumArgs+s[3].getNumArgs !=0|| !h.isIdent then Macro.throwUnsupported else
 pure (mC (rY [yR "exact" "noNS" "$",yR "exact" "noSN" "$",yR "exact" "Bool.noConfusion" "$","(cases cases <null (elimTarget <null ) [explicit @ $ ) ) ) <null ) <null ) )"]) [h])
@[reducible]def Cu(s:Syntax):Bool:=match s.getHeadInfo with|.original .. =>true|_=>false
@[reducible]def Cv:String:="[typeAscription [hygienicLParen ` <hygieneInfo ' ) ) [syntheticHole ? _ ) : <null # ) `) )"
@[reducible]def Cw:Nat->List Syntax->List Syntax×List Syntax
 |n+1,x::r=>
  let(r,l):=Cw n r
  if ku x "Term.byTactic" then(mC "[syntheticHole ? _ )" []::r,x::l)else
  if ku x "Term.show" && ku x[2] "Term.byTactic'" then(mC (eS Cv ["$"]) [x[1]]::r,mC "[byTactic by $ )" [x[2][1]]::l)else
  match x with
  |.node i k a=>let(a,b):=Cw n a.toList;(.node i k a.toArray::r,b++l)
  |x=>(x::r,l)
 |_,l=>(l,[])
@[reducible]def HT(hyp fw:Bool)(q e:String):List String:=
 if hyp then
  let g (x:String):=eS "(withReducibleAndInstances with_reducible_and_instances { (refine refine [app # <null [paren [hygienicLParen ` <hygieneInfo ' ) ) # `) ) ) ) ) } ) ; (rotateLeft rotate_left <null ) )# ; (tacticTry_ try { (clear clear <null $ ) ) } ) ; (intro intro <null $ ) )" [eS Cv ["[arrow [hole _ ) → [hole _ ) )"],x,e]
  if fw then[g (eS "[app 'trG <null # $ ) )" [q]),g (eS "[app 'Iff.mp <null # $ ) )" [q]),g (eS "[subst # ▸ <null $ ) )" [q])]
  else[g (eS "[app 'Eq.trans <null # $ ) )" [q]),g (eS "[app 'Iff.mpr <null # $ ) )" [q])]
 else
  let g (f:String):=eS "(withReducibleAndInstances with_reducible_and_instances { # } )" [yR "refine" f (q++" [syntheticHole ? _ )")]++e
  if fw then[g "Eq.trans",g "Iff.mpr",g "rwE"]else[g "trF",g "Iff.mp",g "rwF"]
@[reducible]def HU(hyp:Bool)(pre:String)(as:List Syntax):List Syntax->List String×List Syntax
 |[]=>([],as)
 |r::rs=>
  let(q,bs):=Cw 999 [r[1]]
  let n:=as.length
  let d:="$"++HQ n
  let e:=Cs " ; (exact exact " " )" (n+2) bs.length
  let old:=eS "(rewriteSeq rewrite (optConfig <null ) ) (rwRuleSeq $.. <null #. ) $... ) <null # ) )" [d,if hyp then "$." else ""]
  let fw:=r[0].getNumArgs==0
  let(l,as):=HU hyp pre (as++q++r::bs) rs
  ((pre++rY (if(r.find? λx=>ku x "Term.fun").isSome then[old]else HT hyp fw d e++HT hyp fw (eS "[app # <null [ellipsis .. ) ) )" [d]) e++[old]))::l,as)
@[reducible]def HV(pre post:String)(s:Syntax):MacroM Syntax:=
 let l:=s[3][0][1][0]
 if s[1][0].getNumArgs !=0||l.getNumArgs>1||l.getNumArgs==1 && !l[0].isIdent|| !Cu s then Macro.throwUnsupported else
 let(w,as):=HU (l.getNumArgs==1) pre [l[0],s[3][0],s[2][0],s[2][2]] s[2][1].getSepArgs.toList
 pure (mC (eS "(paren ` { # ; #(tacticTry_ try { # } ) } `) )" [" ; ".intercalate w,post,HN "(tacticRfl rfl )"]) as)
@[reducible]def Rn(s:Syntax):MacroM Syntax:=
 if !Cu s then Macro.throwUnsupported else
 pure (mC (rY [eS "(refine refine # )" [eS Cv ["$"]],"(change change $ <null ) )"]) [s[1]])
end
end
local macro_rules (kind:=Lean.Parser.Tactic.obtain)|s=>Rl s
local macro_rules (kind:=Lean.Parser.Tactic.exact)|s=>HS "exact" s
local macro_rules (kind:=Lean.Parser.Tactic.refine)|s=>HS "refine" s
local macro_rules (kind:=Lean.Parser.Tactic.cases)|s=>Rm s
local macro_rules (kind:=Lean.Parser.Tactic.rwSeq)|s=>HV "" "" s
local macro_rules (kind:=Lean.Parser.Tactic.show)|s=>Rn s
section
open Nat.Internal.Linear in
inductive LC
 |l (a b:Expr)
 |e (a b:Expr)
 |q (a b:Expr)
noncomputable section
open Nat.Internal.Linear
abbrev LC.p(c:Context)(x:LC):Prop:=LC.rec (λa b=>a.denote c<=b.denote c) (λa b=>a.denote c=b.denote c) (λa b=>a.denote c=b.denote c) x
abbrev LC.s(x:LC)(y:Expr×Expr):Expr×Expr:=LC.rec (λa b=>(.add a y.1,.add b y.2)) (λa b=>(.add a y.1,.add b y.2)) (λa b=>(.add b y.1,.add a y.2)) x
abbrev LC.ps(c:Context)(g:Prop)(xs:List LC):Prop:=o7 g (λx Y r=>x.p c->r) xs
abbrev LC.ok(xs:List LC)(y:Expr×Expr):Bool:=(ExprCnstr.mk false (o7 y (λx Y r=>x.s r) xs:Expr×Expr).1 (o7 y (λx Y r=>x.s r) xs:Expr×Expr).2).toNormPoly.isUnsat
def Ro(c:Context)(g:Prop)(y:Expr×Expr)(xs:List LC):∀A B:Nat,B+(o7 y (λx Y r=>LC.s x r) xs:Expr×Expr).2.denote c<A+(o7 y (λx Y r=>LC.s x r) xs:Expr×Expr).1.denote c->A<=B->(∀A B,B+y.2.denote c<A+y.1.denote c->A<=B->g)->LC.ps c g xs:=by
 induction xs with
 |nil=>exact λA B h h2 k=>k A B h h2
 |cons x r ih=>
  intro A B h h2 k;generalize hz:(o7 y (λx Y r=>LC.s x r) r:Expr×Expr)=z at ih;have h':B+(x.s z).2.denote c<A+(x.s z).1.denote c:=by rw[<-hz];exact h
  intro hx;cases x with
  |l a b=>exact ih _ _ (by rw[nO,nO];exact h') (mD h2 hx) k
  |e a b=>exact ih _ _ (by rw[nO,nO];exact h') (mD h2 (lD hx)) k
  |q a b=>exact ih _ _ (by rw[nO,nO];exact h') (mD h2 (lD hx.symm)) k
def HW(c:Context)(g:Prop)(y:Expr×Expr)(xs:List LC)(h:LC.ok xs y=true)(k:∀A B,B+y.2.denote c<A+y.1.denote c->A<=B->g):LC.ps c g xs:=by have:=ExprCnstr.eq_false_of_isUnsat c _ h;exact Ro c g y xs 0 0 (by rw[nP,nP];exact vQ.mp λe=>this.mp e) (bG _) k
def lg(c:Context)(l r:Expr)(xs:List LC)(h:LC.ok xs (.add r (.num 1),l)=true):LC.ps c (l.denote c<=r.denote c) xs:=HW c _ _ xs h λA B h h2=>fT.mp λe=>vQ.mpr h (mD h2 e)
def ln(c:Context)(xs:List LC)(h:LC.ok xs (.num 0,.num 0)=true):LC.ps c False xs:=HW c _ _ xs h λA B h h2=>vQ.mpr h (HX h2 0)
abbrev af:Expr:=.var 0
abbrev ak:Expr:=.var 1
abbrev av:Expr:=.var 2
abbrev bo:Expr:=.var 3
abbrev cX:Expr:=.var 4
abbrev lE:Expr:=.var 5
abbrev qF:Expr:=.var 6
abbrev qG:Expr:=.var 7
abbrev aX:Expr:=.num 1
abbrev az:Expr:=.add af aX
abbrev aK:Expr:=.add ak aX
abbrev bD:Expr:=.add av aX
abbrev cI:Expr:=.add af ak
abbrev ie:Expr:=.add ak av
abbrev lF:Expr:=.add bo aX
abbrev kx:Expr:=.add af av
abbrev nQ:Expr:=.add av bo
abbrev cc:Expr:=.num 5000
abbrev cK:Expr:=.num 100
abbrev dm:Expr:=.num 7
abbrev dw:Expr:=.num 2
abbrev dI:Expr:=.num 1000
abbrev d9:Expr:=.num 2000
abbrev eL:Expr:=.num 10
abbrev eT:Expr:=.num 4096
abbrev ig:Expr:=.num 9
abbrev iN:Expr:=.num 0
abbrev iO:Expr:=.num 27
abbrev kG:Expr:=.num 200
abbrev kH:Expr:=.num 8
abbrev nR:Expr:=.num 30
abbrev nS:Expr:=.num 400
abbrev nT:Expr:=.num 67
abbrev qH:Expr:=.num 500
abbrev qI:Expr:=.num 1500
abbrev o8:Expr:=.num 6
def a9{x0:Nat}(l r:Expr)(xs:List LC)(h:LC.ok xs (.add r (.num 1),l)=true):LC.ps (.leaf x0) (l.denote (.leaf x0)<=r.denote (.leaf x0)) xs:=lg _ l r xs h
def HY{x0:Nat}(xs:List LC)(h:LC.ok xs (.num 0,.num 0)=true):LC.ps (.leaf x0) False xs:=ln _ xs h
def aG{x0 x1:Nat}(l r:Expr)(xs:List LC)(h:LC.ok xs (.add r (.num 1),l)=true):LC.ps (.branch 1 (.leaf x0) (.leaf x1)) (l.denote (.branch 1 (.leaf x0) (.leaf x1))<=r.denote (.branch 1 (.leaf x0) (.leaf x1))) xs:=lg _ l r xs h
def ln2{x0 x1:Nat}(xs:List LC)(h:LC.ok xs (.num 0,.num 0)=true):LC.ps (.branch 1 (.leaf x0) (.leaf x1)) False xs:=ln _ xs h
def bq{x0 x1 x2:Nat}(l r:Expr)(xs:List LC)(h:LC.ok xs (.add r (.num 1),l)=true):LC.ps (.branch 1 (.leaf x0) (.branch 2 (.leaf x1) (.leaf x2))) (l.denote (.branch 1 (.leaf x0) (.branch 2 (.leaf x1) (.leaf x2)))<=r.denote (.branch 1 (.leaf x0) (.branch 2 (.leaf x1) (.leaf x2)))) xs:=lg _ l r xs h
def cO{x0 x1 x2:Nat}(xs:List LC)(h:LC.ok xs (.num 0,.num 0)=true):LC.ps (.branch 1 (.leaf x0) (.branch 2 (.leaf x1) (.leaf x2))) False xs:=ln _ xs h
def dC{x0 x1 x2 x3:Nat}(l r:Expr)(xs:List LC)(h:LC.ok xs (.add r (.num 1),l)=true):LC.ps (.branch 2 (.branch 1 (.leaf x0) (.leaf x1)) (.branch 3 (.leaf x2) (.leaf x3))) (l.denote (.branch 2 (.branch 1 (.leaf x0) (.leaf x1)) (.branch 3 (.leaf x2) (.leaf x3)))<=r.denote (.branch 2 (.branch 1 (.leaf x0) (.leaf x1)) (.branch 3 (.leaf x2) (.leaf x3)))) xs:=lg _ l r xs h
def o9{x0 x1 x2 x3:Nat}(xs:List LC)(h:LC.ok xs (.num 0,.num 0)=true):LC.ps (.branch 2 (.branch 1 (.leaf x0) (.leaf x1)) (.branch 3 (.leaf x2) (.leaf x3))) False xs:=ln _ xs h
def mE{x0 x1 x2 x3 x4:Nat}(l r:Expr)(xs:List LC)(h:LC.ok xs (.add r (.num 1),l)=true):LC.ps (.branch 2 (.branch 1 (.leaf x0) (.leaf x1)) (.branch 3 (.leaf x2) (.branch 4 (.leaf x3) (.leaf x4)))) (l.denote (.branch 2 (.branch 1 (.leaf x0) (.leaf x1)) (.branch 3 (.leaf x2) (.branch 4 (.leaf x3) (.leaf x4))))<=r.denote (.branch 2 (.branch 1 (.leaf x0) (.leaf x1)) (.branch 3 (.leaf x2) (.branch 4 (.leaf x3) (.leaf x4))))) xs:=lg _ l r xs h
def yS{x0 x1 x2 x3 x4:Nat}(xs:List LC)(h:LC.ok xs (.num 0,.num 0)=true):LC.ps (.branch 2 (.branch 1 (.leaf x0) (.leaf x1)) (.branch 3 (.leaf x2) (.branch 4 (.leaf x3) (.leaf x4)))) False xs:=ln _ xs h
def Rp{x0 x1 x2 x3 x4 x5:Nat}(l r:Expr)(xs:List LC)(h:LC.ok xs (.add r (.num 1),l)=true):LC.ps (.branch 3 (.branch 1 (.leaf x0) (.branch 2 (.leaf x1) (.leaf x2))) (.branch 4 (.leaf x3) (.branch 5 (.leaf x4) (.leaf x5)))) (l.denote (.branch 3 (.branch 1 (.leaf x0) (.branch 2 (.leaf x1) (.leaf x2))) (.branch 4 (.leaf x3) (.branch 5 (.leaf x4) (.leaf x5))))<=r.denote (.branch 3 (.branch 1 (.leaf x0) (.branch 2 (.leaf x1) (.leaf x2))) (.branch 4 (.leaf x3) (.branch 5 (.leaf x4) (.leaf x5))))) xs:=lg _ l r xs h
def Rq{x0 x1 x2 x3 x4 x5:Nat}(xs:List LC)(h:LC.ok xs (.num 0,.num 0)=true):LC.ps (.branch 3 (.branch 1 (.leaf x0) (.branch 2 (.leaf x1) (.leaf x2))) (.branch 4 (.leaf x3) (.branch 5 (.leaf x4) (.leaf x5)))) False xs:=ln _ xs h
end
end
open PySem PySem.Calls PyProof.Rows PySem.W PySem.SeqAt
variable{α β:Type}{p r a b:Addr}{k:Nat}{n:Str}
section
set_option genInjectivity true in
inductive V where
 |none
 |bool (b:Bool)
 |int (i:Int)
 |str (s:Str)
 |tup (l:List V)
 |ab (n:Nat)
 |cY (n:Nat)
abbrev V.ctorIdx(x:V):Nat:= @V.casesOn (λY=>Nat) x 0 (λY=>1) (λY=>2) (λY=>3) (λY=>4) (λY=>5) (λY=>6)
mutual
abbrev V.beq:V->V->Bool
 |.none,b=>(match b with|.none=>true|_=>false)
 |.bool a,b=>(match b with|.bool b=>a==b|_=>false)
 |.int a,b=>(match b with|.int b=>decide (a=b)|_=>false)
 |.str a,b=>(match b with|.str b=>decide (a=b)|_=>false)
 |.tup a,b=>(match b with|.tup b=>V.nU a b|_=>false)
 |.ab a,b=>(match b with|.ab b=>qJ a b|_=>false)
 |.cY a,b=>(match b with|.cY b=>qJ a b|_=>false)
abbrev V.nU:List V->List V->Bool
 |[],l=>(match l with|[]=>true|_::_=>false)
 |a::r,l=>(match l with|[]=>false|b::t=>V.beq a b && V.nU r t)
end
set_option genInjectivity true in
inductive O where
 |list (xs:List V)
 |dict (kvs:List (V×V)) (ep:Option Nat)
 |inst (c:Str) (fs:List (Str×V))
abbrev O.ctorIdx(x:O):Nat:=O.casesOn (motive:=λY=>Nat) x (λY=>0) (λY Y=>1) (λY Y=>2)
@[reducible]abbrev ah:=List O
@[reducible]abbrev M(α:Type):=ah->Option (α×ah)
@[reducible]abbrev aw:=List (Str×Option V)
abbrev rt(a:α):M α:=λst=>some (a,st)
abbrev bd(m:M α)(f:α->M β):M β:=λst=>match m st with|some (a,U)=>f a U|none=>none
abbrev er:M α:=λY=>none
abbrev op(x:Option α):M α:=match x with|some a=>rt a|none=>er
abbrev bH:Nat:=1000000
abbrev bp:Nat:=4096
abbrev dQ(l:Nat):M O:=λst=>match st[l]? with|some o=>some (o,st)|none=>none
abbrev jH(l:Nat)(o:O):M Unit:=λst=>if l<st.length then some ((),st.set l o)else none
abbrev je(o:O):M V:=λst=>some (.ab st.length,st++[o])
abbrev fits(n:Nat):M Unit:=if n<=bH then rt ()else er
abbrev cg(xs:List V):M V:=bd (fits xs.length) λY=>je (.list xs)
abbrev gE(l:Nat)(xs:List V):M Unit:=bd (fits xs.length) λY=>if¬l=0 then jH l (.list xs)else er
abbrev getL(v:V):M (Nat×List V):=match v with
 |.ab l=>bd (dQ l) λo=>match o with|.list xs=>rt (l,xs)|_=>er
 |_=>er
abbrev cR(v:V):M Int:=match v with|.int i=>rt i|_=>er
abbrev lG(v:V):M (List V):=match v with|.tup xs=>rt xs|_=>er
abbrev qK(v:V):M Nat:=match v with|.ab l=>rt l|_=>er
abbrev one(as:List V):M V:=match as with|[]=>er|a::r=>match r with|[]=>rt a|_::_=>er
abbrev mF(v:V):Bool:=match v with|.none=>true|_=>false
abbrev V.isInt:V->Bool|.int _=>true|_=>false
abbrev V.isStr:V->Bool|.str _=>true|_=>false
abbrev V.eA:Nat->V->Bool
 |_,.int _=>true
 |_,.str _=>true
 |n+1,.tup l=>l.all (V.eA n)
 |_,_=>false
abbrev V.isTup:V->Bool|.tup l=>l.all (V.eA 3)|_=>false
abbrev eB(k:V)(kvs:List (V×V)):Bool:=match k with
 |.int _=>kvs.all λp=>p.1.isInt
 |.str _=>kvs.all λp=>p.1.isStr
 |.tup _=>k.isTup && kvs.all λp=>p.1.isTup
 |_=>false
abbrev bL(kvs:List (V×V))(k:V):Option V:=match kvs with
 |[]=>none
 |p::r=>if V.beq p.1 k then some p.2 else bL r k
abbrev ec(kvs:List (V×V))(k v:V):List (V×V):=match kvs with
 |[]=>[(k,v)]
 |p::r=>if V.beq p.1 k then(p.1,v)::r else p::ec r k v
abbrev iP(kvs:List (V×V))(k:V):List (V×V):=match kvs with
 |[]=>[]
 |p::r=>if V.beq p.1 k then r else p::iP r k
variable{r:List (V×V)}{k:V}
def yT{p:V×V}:bL (p::r) k=if V.beq p.1 k then some p.2 else bL r k:=rfl
variable{v:V}
def vR{p:V×V}:ec (p::r) k v=if V.beq p.1 k then(p.1,v)::r else p::ec r k v:=rfl
def yU{p:V×V}:iP (p::r) k=if V.beq p.1 k then r else p::iP r k:=rfl
abbrev getD(v:V):M (Nat×List (V×V)×Option Nat):=match v with
 |.ab l=>bd (dQ l) λo=>match o with|.dict kvs ep=>rt (l,kvs,ep)|_=>er
 |_=>er
abbrev tW(v k:V):M (Nat×List (V×V)×Option Nat):=bd (getD v) λd=>if eB k d.2.1 then rt d else er
abbrev eU(v k x:V):M Unit:=bd (tW v k) λd=>
 match bL d.2.1 k with
 |some _=>jH d.1 (.dict (ec d.2.1 k x) d.2.2)
 |none=>bd (fits (d.2.1.length+1)) λY=>jH d.1 (.dict (d.2.1++[(k,x)]) (d.2.2.map (·+1)))
abbrev jf(d:V):List (V×V)->M Unit
 |[]=>rt ()
 |p::r=>bd (eU d p.1 p.2) λY=>jf d r
abbrev idx(n:Nat)(i:Int):Option Nat:=if 0<=i then(if i<n then some i.toNat else none)else(if 0<=i+n then some (i+n).toNat else none)
abbrev Rr(o:O)(k:V):M V:=match o with
 |.list xs=>bd (cR k) λi=>op ((idx xs.length i).bind λj=>xs[j]?)
 |.dict kvs _=>if eB k kvs then op (bL kvs k)else er
 |.inst _ _=>er
abbrev getItem(v k:V):M V:=match v with
 |.tup xs=>bd (cR k) λi=>bd (fits xs.length) λY=>op ((idx xs.length i).bind λj=>xs[j]?)
 |.ab l=>bd (dQ l) λo=>Rr o k
 |_=>er
abbrev eV(fs:List (Str×V))(n:Str):Option V:=match fs with
 |[]=>none
 |p::r=>if p.1=n then some p.2 else eV r n
abbrev nV(fs:List (Str×V))(n:Str)(v:V):List (Str×V):=match fs with
 |[]=>[(n,v)]
 |p::r=>if p.1=n then(p.1,v)::r else p::nV r n v
def Cx{p:Str×V}{r:List (Str×V)}:nV (p::r) n v=if p.1=n then(p.1,v)::r else p::nV r n v:=rfl
abbrev dZ:List V->Option (List Int)
 |[]=>some []
 |.int i::r=>(dZ r).map (i::·)
 |_=>none
abbrev pa:List Int->List Int->Bool
 |[],[]=>false
 |[],_::_=>true
 |_::_,[]=>false
 |a::r,b::t=>if a=b then pa r t else decide (a<b)
abbrev insI(x:Int):List Int->List Int
 |[]=>[x]
 |y::r=>if x<=y then x::y::r else y::insI x r
def vS{x y:Int}{r:List Int}:insI x (y::r)=if x<=y then x::y::r else y::insI x r:=rfl
abbrev sortI:List Int->List Int
 |[]=>[]
 |x::r=>insI x (sortI r)
abbrev eqB(a b:V):Option Bool:=match a with
 |.none=>(match b with|.none=>some true|.int _=>some false|_=>none)
 |.bool a=>(match b with|.bool b=>some (a==b)|_=>none)
 |.int a=>(match b with|.int b=>some (decide (a=b))|.none=>some false|.str _=>some false|_=>none)
 |.str a=>(match b with|.str b=>some (decide (a=b))|.int _=>some false|_=>none)
 |_=>none
abbrev gn(f:V->V->Option Bool):List V->List V->Option Bool
 |a::r,b::t=>match f a b,gn f r t with
  |some x,some y=>some (x && y)
  |_,_=>none
 |_,_=>some true
abbrev both:Option Bool->Option Bool->Option Bool
 |some x,some y=>some (x && y)
 |_,_=>none
def HZ{f:V->V->Option Bool}{a b:V}{xs ys:List V}:gn f (a::xs) (b::ys)=both (f a b) (gn f xs ys):=rfl
def Rt{x y:Bool}:both (some x) (some y)=some (x && y):=rfl
abbrev mG(f:V->V->Option Bool)(ys:List (V×V)):List (V×V)->Option Bool
 |p::r=>match bL ys p.1 with
  |none=>some false
  |some y=>match f p.2 y,mG f ys r with
   |some x,some z=>some (x && z)
   |_,_=>none
 |[]=>some true
abbrev iQ(f:V->V->Option Bool)(x y:Option O):Option Bool:=match x with
 |some (.list xs)=>(match y with|some (.list ys)=>if xs.length=ys.length then gn f xs ys else some false|_=>none)
 |some (.dict xs _)=>(match y with
  |some (.dict ys _)=>if xs.all (λp=>p.1.isInt) && ys.all (λp=>p.1.isInt)then(if xs.length=ys.length then mG f ys xs else some false)else none
  |_=>none)
 |_=>none
abbrev bZ:Nat->ah->V->V->Option Bool
 |0,_,a,b=>eqB a b
 |n+1,st,a,b=>match a with
  |.tup xs=>(match b with|.tup ys=>if xs.length=ys.length then gn (bZ n st) xs ys else none|_=>none)
  |.ab k=>(match b with|.ab l=>iQ (bZ n st) st[k]? st[l]? |_=>none)
  |a=>eqB a b
abbrev mH(a b:V):M Bool:=λst=>match bZ 6 st a b with|some x=>some (x,st)|none=>none
abbrev nW(a:V):List V->M Bool
 |[]=>rt false
 |x::r=>bd (mH x a) λb=>bd (nW a r) λc=>rt (b||c)
abbrev contains(a c:V):M Bool:=match c with
 |.tup xs=>nW a xs
 |.ab l=>bd (dQ l) λo=>match o with
  |.list xs=>nW a xs
  |.dict kvs _=>if a.isInt && kvs.all (λp=>p.1.isInt)then rt (bL kvs a).isSome else er
  |_=>er
 |_=>er
abbrev cmp(o:CmpOp)(a b:V):M V:=match o with
 |.Eq=>bd (mH a b) λt=>rt (.bool t)
 |.NotEq=>bd (mH a b) λt=>rt (.bool !t)
 |.Lt=>bd (cR a) λi=>bd (cR b) λj=>rt (.bool (decide (i<j)))
 |.LtE=>bd (cR a) λi=>bd (cR b) λj=>rt (.bool (decide (i<=j)))
 |.Gt=>bd (cR a) λi=>bd (cR b) λj=>rt (.bool (decide (j<i)))
 |.GtE=>bd (cR a) λi=>bd (cR b) λj=>rt (.bool (decide (j<=i)))
 |.Is=>if mF b then rt (.bool (mF a))else er
 |.IsNot=>if mF b then rt (.bool !(mF a))else er
 |.In=>bd (contains a b) λt=>rt (.bool t)
 |.NotIn=>bd (contains a b) λt=>rt (.bool !t)
abbrev big:Int:=1000000000000
abbrev H8(a b:V):M V:=match a with
 |.int i=>bd (cR b) λj=>rt (.int (i+j))
 |.tup xs=>bd (lG b) λys=>bd (fits (xs.length+ys.length)) λY=>rt (.tup (xs++ys))
 |.ab k=>bd (getL (.ab k)) λp=>bd (getL b) λq=>cg (p.2++q.2)
 |_=>er
abbrev binop(o:Operator)(a b:V):M V:=match o with
 |.Add=>H8 a b
 |.Sub=>bd (cR a) λi=>bd (cR b) λj=>rt (.int (i-j))
 |.Mult=>bd (cR a) λi=>bd (cR b) λj=>if-big<=i/\i<=big/\-big<=j/\j<=big then rt (.int (i*j))else er
 |.FloorDiv=>bd (cR a) λi=>bd (cR b) λj=>if¬(j=0\/i< -big\/big<i)then rt (.int (Ia i j))else er
 |.Mod=>bd (cR a) λi=>bd (cR b) λj=>if¬j=0 then rt (.int (Int.fmod i j))else er
 |_=>er
abbrev truthy:V->M Bool
 |.bool b=>rt b
 |_=>er
abbrev pb(xs:List V)(lo hi:Option Int):List V:=(xs.take (hi.elim xs.length (clipAt xs.length))).drop (lo.elim 0 (clipAt xs.length))
abbrev isName(x:String)(n:Str):Bool:=decide (n=aM x)
set_option genInjectivity true in
structure FD where
 params:List Str
 body:List Stmt
 scope:cj
@[reducible]abbrev FK:=Str×Str
structure eG where
 tab:List (FK×FD)
 consts:List (Str×V)
 classes:List Str
 attrs:List Str
abbrev Cy:FD:=⟨[],[],⟨.function,[],false,false,[]⟩⟩
abbrev fdOf:Stmt->FD
 |.FunctionDef _ args body _ _ _ scope _ _ _=>⟨args.args.map (·.arg),body,scope⟩
 |.ClassDef .. =>Cy
 |.Assign .. =>Cy
 |_=>Cy
abbrev jI:List Stmt->Nat->Stmt
 |[],_=>.Pass ⟨0,0,0,0⟩
 |s::_,0=>s
 |_::r,n+1=>jI r n
abbrev bodyOf:Stmt->List Stmt
 |.FunctionDef .. =>[]
 |.ClassDef _ _ _ body _ _ _ _ _ _ _=>body
 |.Assign .. =>[]
 |_=>[]
abbrev ij(k:FK):List (FK×FD)->Option FD
 |[]=>none
 |p::r=>if p.1.2=k.2 then(if p.1.1=k.1 then some p.2 else ij k r)else ij k r
abbrev qL(n:Str):List (Str×α)->Option α
 |[]=>none
 |p::r=>if p.1=n then some p.2 else qL n r
abbrev dR(n:Str):List Str->Bool
 |[]=>false
 |m::r=>if m=n then true else dR n r
inductive Cl where
 |name (n:Str)
 |tup (ts:List Expr)
 |attr (o:Expr) (n:Str)
 |sub (o i:Expr)
 |const (c:Const)
 |call (f:Expr) (as:List Expr) (ks:List Keyword)
 |qM
 |comp
 |no
abbrev Cl.ctorIdx(x:Cl):Nat:=Cl.casesOn (motive:=λY=>Nat) x (λY=>0) (λY=>1) (λY Y=>2) (λY Y=>3) (λY=>4) (λY Y Y=>5) 6 7 8
abbrev cl(e:Expr):Cl:=match e with
 |.Name n _=>.name n
 |.Tuple ts _ _=>.tup ts
 |.Attribute o n _=>.attr o n
 |.Subscript o i _=>.sub o i
 |.Constant c _ _=>.const c
 |.Call f as ks _=>.call f as ks
 |.List .. =>.qM
 |.Dict .. =>.qM
 |.ListComp .. =>.comp
 |.SetComp .. =>.comp
 |.DictComp .. =>.comp
 |_=>.no
abbrev tX(c:Const):Option V:=match c with
 |.int i=>some (.int i)
 |.str s=>some (.str s)
 |.bool b=>some (.bool b)
 |.none=>some .none
 |_=>none
abbrev Ib(f:Expr->Option V):List Expr->Option (List V)
 |[]=>some []
 |e::r=>(f e).bind λv=>(Ib f r).map (v::·)
abbrev Ic:Nat->Expr->Option V
 |0,_=>none
 |d+1,e=>match cl e with
  |.const c=>tX c
  |.tup es=>(Ib (Ic d) es).map .tup
  |_=>none
abbrev Ru(e:Expr):Option V:=Ic 3 e
abbrev constOf:Stmt->V
 |.FunctionDef .. =>.none
 |.ClassDef .. =>.none
 |.Assign _ e _=>(Ru e).getD .none
 |_=>.none
abbrev getAttr(P:eG)(v:V)(n:Str):M V:=match v with
 |.ab l=>bd (dQ l) λo=>match o with|.inst _ fs=>if dR n P.attrs then op (eV fs n)else er|_=>er
 |_=>er
abbrev setAttr(P:eG)(v:V)(n:Str)(x:V):M Unit:=match v with
 |.ab l=>bd (dQ l) λo=>match o with|.inst c fs=>if dR n P.attrs && pd fs.length 100 then jH l (.inst c (nV fs n x))else er|_=>er
 |_=>er
structure aO where
 scope:cj
 aj:aw
inductive Fl where
 |next
 |ret (v:V)
structure aT where
 ev:aO->Expr->M V
 b7:aO->Expr->M Bool
 cZ:aO->List Stmt->M (Fl×aw)
 call:FK->List V->M V
abbrev cF(aj:aw)(n:Str):Option V:=match aj with
 |[]=>none
 |p::r=>if p.1=n then p.2 else cF r n
abbrev jg(aj:aw)(n:Str)(v:V):Option aw:=match aj with
 |[]=>none
 |p::r=>if p.1=n then some ((p.1,some v)::r)else(jg r n v).map (p::·)
def pf{p:Str×Option V}{r:aw}:cF (p::r) n=if p.1=n then p.2 else cF r n:=rfl
def yV{p:Str×Option V}{r:aw}:jg (p::r) n v=if p.1=n then some ((p.1,some v)::r)else(jg r n v).map (p::·):=rfl
abbrev kind(aa:aO)(n:Str):Option NameKind:=aa.scope.names.lookup n
abbrev dy(I:aT)(aa:aO):List Expr->M (List V)
 |[]=>rt []
 |e::r=>bd (I.ev aa e) λv=>bd (dy I aa r) λvs=>rt (v::vs)
inductive Src where
 |enum (xs:List V)
 |list (l:Nat)
 |dict (l n ep:Nat)
 |items (xs:List V)
abbrev Src.ctorIdx(x:Src):Nat:=Src.casesOn (motive:=λY=>Nat) x (λY=>0) (λY=>1) (λY Y Y=>2) (λY=>3)
abbrev srcOf(v:V):M Src:=match v with
 |.tup xs=>rt (.items xs)
 |.cY n=>rt (.items ((f' n).map λ(k:Nat)=>V.int k))
 |.ab l=>bd (dQ l) λo=>match o with
  |.list _=>rt (.list l)
  |.dict kvs (some ep)=>if kvs.all (λp=>p.1.isInt)then rt (.dict l kvs.length ep)else er
  |_=>er
 |_=>er
abbrev nX(s:Src)(i:Nat):M (Option V):=match s with
 |.items xs=>rt xs[i]?
 |.enum xs=>rt ((xs[i]?).map λy=>.tup [.int i,y])
 |.list l=>bd (dQ l) λo=>match o with|.list xs=>rt xs[i]? |_=>er
 |.dict l n ep=>bd (dQ l) λo=>match o with
  |.dict kvs e=>if kvs.length=n/\e=some ep/\kvs.all (λp=>p.1.isInt)then rt (kvs[i]?.map (·.1))else er
  |_=>er
abbrev forL(src:Src)(body:V->aw->M (Fl×aw)):Nat->Nat->aw->M (Fl×aw)
 |0,_,_=>er
 |k+1,i,aj=>bd (nX src i) λx=>match x with
  |none=>rt (.next,aj)
  |some v=>bd (body v aj) λr=>match r.1 with
   |.next=>forL src body k (i+1) r.2
   |.ret _=>rt r
abbrev fB(src:Src)(body:V->M (List V)):Nat->Nat->List V->M (List V)
 |0,_,_=>er
 |k+1,i,acc=>bd (nX src i) λx=>match x with
  |none=>rt acc
  |some v=>bd (body v) λr=>bd (fits (acc.length+r.length)) λY=>fB src body k (i+1) (acc++r)
abbrev pg(test:aw->M Bool)(body:aw->M (Fl×aw)):Nat->aw->M (Fl×aw)
 |0,_=>er
 |k+1,aj=>bd (test aj) λt=>if t then bd (body aj) λr=>(match r.1 with
  |.next=>pg test body k r.2
  |.ret _=>rt r)else rt (.next,aj)
abbrev jJ(v:V):M (List V):=match v with
 |.tup xs=>rt xs
 |.ab l=>bd (getL (.ab l)) λp=>rt p.2
 |_=>er
abbrev rZ(aa:aO)(n:Str)(v:V):M aw:=match kind aa n with
 |some .local=>op (jg aa.aj n v)
 |some .cell=>op (jg aa.aj n v)
 |_=>er
abbrev jh(f:aO->Expr->V->M aw):aO->List Expr->List V->M aw
 |aa,[],vs=>(match vs with|[]=>rt aa.aj|_::_=>er)
 |aa,t::ts,vs=>(match vs with|[]=>er|v::vs=>bd (f aa t v) λaj=>jh f {aa with aj:=aj} ts vs)
abbrev qN(P:eG)(I:aT)(f:aO->Expr->V->M aw)(aa:aO)(t:Expr)(v:V):M aw:=match cl t with
 |.name n=>rZ aa n v
 |.attr o n=>bd (I.ev aa o) λov=>bd (setAttr P ov n v) λY=>rt aa.aj
 |.sub o i=>bd (I.ev aa o) λov=>bd (I.ev aa i) λiv=>bd (eU ov iv v) λY=>rt aa.aj
 |.tup ts=>bd (jJ v) λxs=>if xs.length=ts.length then jh f aa ts xs else er
 |_=>er
abbrev ji(P:eG)(I:aT):Nat->aO->Expr->V->M aw
 |0=>λY Y Y=>er
 |d+1=>qN P I (ji P I d)
@[reducible]abbrev ef(P:eG)(I:aT):aO->Expr->V->M aw:=ji P I 3
abbrev qO(scope:cj):aw:=(scope.names.filter λp=>(p.2== .local||p.2== .cell) && !isName ".0" p.1).map λp=>(p.1,none)
abbrev Ie(scope:cj)(aj:aw):aw:=aj.filter λp=>scope.names.lookup p.1==some .free
abbrev compEnv(scope:cj)(aj:aw):aO:=⟨scope,qO scope++Ie scope aj⟩
abbrev tests(I:aT)(aa:aO):List Expr->M Bool
 |[]=>rt true
 |c::r=>bd (I.b7 aa c) λt=>if t then tests I aa r else rt false
abbrev namesOf:List Expr->Option (List Str)
 |[]=>some []
 |t::r=>match cl t with
  |.name n=>(namesOf r).map (n::·)
  |_=>none
abbrev Rv(t:Expr):Option (List Str):=match cl t with
 |.name n=>some [n]
 |.tup ts=>namesOf ts
 |_=>none
abbrev freshT(aj:aw)(t:Expr):Bool:=match Rv t with
 |some ns=>ns.all λn=>(cF aj n).isNone
 |none=>false
abbrev qP(aa:aO)(scope:cj):Bool:=scope.kind== .function && scope.names.all λp=>match p.2 with
 |.local=>scope.names.lookup p.1==some .local
 |.cell=>false
 |.free=>scope.names.lookup p.1==some .free && (kind aa p.1==some .cell||kind aa p.1==some .free)
 |_=>true
abbrev clauses(P:eG)(I:aT)(elt:Expr):List c9->aO->V->M (List V)
 |[],_,_=>er
 |g::rest,aa,v=>if(freshT aa.aj g.target && g.is_async==0)=true then bd (ef P I aa g.target v) λaj=>bd (tests I {aa with aj:=aj} g.ifs) λt=>
  if t then(match rest with
   |[]=>bd (I.ev {aa with aj:=aj} elt) λx=>rt [x]
   |g2::_=>bd (I.ev {aa with aj:=aj} g2.iter) λs=>bd (srcOf s) λsrc=>fB src (clauses P I elt rest {aa with aj:=aj}) bp 0 [])
  else rt []else er
abbrev comp(P:eG)(I:aT)(aa:aO)(elt:Expr)(gens:List c9)(scope:cj):M V:=match gens with
 |[]=>er
 |g::rest=>if !(qP aa scope && (g::rest).all (λg=>g.is_async==0))then er else bd (I.ev aa g.iter) λs=>bd (srcOf s) λsrc=>
  bd (fB src (clauses P I elt (g::rest) (compEnv scope aa.aj)) bp 0 []) λxs=>cg xs
abbrev vT(xs:List V):M V:=match dZ xs with
 |some is=>if xs.length<64 then cg ((sortI is).map .int)else er
 |none=>er
abbrev r6(b:Nat->Nat->Bool):PySem.W.KasT α->α
 |.ret a=>a
 |.ask i j k=>r6 b (k (b i j))
abbrev pick(l:List α)(p:Array Nat):List α:=match l with
 |[]=>[]
 |d::r=>(f' (d::r).length).map λk=>(d::r).getD (p.getD k 0) d
abbrev tY(ks:List (List Int))(i j:Nat):Bool:=pa (ks.getD i []) (ks.getD j [])
abbrev nY(ks:List (List Int)):Array Nat:=r6 (tY ks) (PySem.W.kas_sort ks.length)
abbrev vU(q:List (V×List Int)):List (V×List Int):=pick q (nY (q.map (·.2)))
abbrev qQ:List V->M (List (V×List Int))
 |[]=>rt []
 |v::r=>bd (getL v) λp=>match dZ p.2 with
  |some is=>bd (qQ r) λq=>rt ((v,is)::q)
  |none=>er
abbrev Ig(l:List V):Option (V×V):=match l with|[]=>none|k::r=>(match r with|[]=>none|w::r=>(match r with|[]=>some (k,w)|_::_=>none))
abbrev pairOf(v:V):Option (V×V):=match v with|.tup l=>Ig l|_=>none
abbrev pairsOf:List V->Option (List (V×V))
 |[]=>some []
 |v::r=>(pairOf v).bind λp=>(pairsOf r).map (p::·)
abbrev Cz(o:O):M V:=match o with|.list xs=>rt (.int xs.length)|.dict kvs _=>rt (.int kvs.length)|_=>er
abbrev Ih(v:V):M V:=match v with
 |.tup xs=>bd (fits xs.length) λY=>rt (.int xs.length)
 |.ab l=>bd (dQ l) Cz
 |_=>er
abbrev CA(o:O):M V:=match o with|.list xs=>cg xs|.dict kvs _=>if kvs.all (λp=>p.1.isInt)then cg (kvs.map (·.1))else er|_=>er
abbrev Ii(v:V):M V:=match v with
 |.cY n=>cg ((f' n).map λ(k:Nat)=>V.int k)
 |.ab l=>bd (dQ l) CA
 |_=>er
abbrev vV(xs:List V):M V:=match dZ xs with
 |some _=>vT xs
 |none=>if xs.length<64 then bd (qQ xs) λq=>cg ((vU q).map (·.1))else er
abbrev Ij(v:V):M V:=match v with
 |.tup xs=>rt (.tup xs)
 |.ab l=>bd (getL (.ab l)) λp=>rt (.tup p.2)
 |_=>er
abbrev CB(o:O):M V:=match o with
 |.dict kvs _=>if kvs.all (λp=>p.1.isInt)then je (.dict kvs none)else er
 |.list xs=>bd (op (pairsOf xs)) λps=>bd (je (.dict [] (some 0))) λd=>bd (jf d ps) λY=>rt d
 |_=>er
abbrev two(f:Int->Int->Int)(as:List V):M V:=match as with
 |a::r=>bd (one r) λb=>bd (cR a) λi=>bd (cR b) λj=>rt (.int (f i j))
 |[]=>er
set_option genCtorIdx true in
inductive BI where
 |len|list|sorted|tuple|dict|int|sum|min|max|range|zip|set|enumerate
abbrev Ik:List (String×BI):=[("len",.len),("list",.list),("sorted",.sorted),("tuple",.tuple),("dict",.dict),("int",.int),("sum",.sum),("min",.min),("max",.max),("range",.range),("zip",.zip),("set",.set),("enumerate",.enumerate)]
abbrev CC(f:Str):List (String×BI)->Option BI
 |[]=>none
 |p::r=>if isName p.1 f then some p.2 else CC f r
abbrev gF(f:Str):Option BI:=CC f Ik
abbrev fC(b:BI)(as:List V):M V:=match b with
 |.len=>bd (one as) Ih
 |.list=>bd (one as) Ii
 |.sorted=>bd (one as) λv=>bd (getL v) λp=>vV p.2
 |.tuple=>bd (one as) Ij
 |.dict=>bd (one as) λv=>bd (qK v) λl=>bd (dQ l) CB
 |.int=>bd (one as) λv=>bd (cR v) λi=>rt (.int i)
 |.sum=>bd (one as) λv=>bd (getL v) λp=>bd (op (dZ p.2)) λis=>rt (.int is.sum)
 |.min=>two (λi j=>if j<i then j else i) as
 |.max=>two (λi j=>if i<j then j else i) as
 |.range=>bd (one as) λv=>bd (cR v) λi=>if 0<=i/\i<=bH then rt (.cY i.toNat)else er
 |_=>er
abbrev CD(l:Nat)(xs:List V)(as:List V):M V:=match as with
 |[]=>bd (op xs.getLast?) λv=>bd (gE l xs.dropLast) λY=>rt v
 |_::_=>er
abbrev vW(l:Nat)(xs:List V)(n:Str)(as:List V):M V:=
 if isName "append" n then bd (one as) λv=>bd (gE l (xs++[v])) λY=>rt .none
 else if isName "extend" n then bd (one as) λv=>bd (getL v) λp=>if¬p.1=l then bd (gE l (xs++p.2)) λY=>rt .none else er
 else if isName "pop" n then CD l xs as
 else if isName "count" n then bd (one as) λv=>bd (cR v) λi=>bd (op (dZ xs)) λis=>rt (.int (is.count i))
 else er
abbrev getM(kvs:List (V×V))(k d:V):M V:=if eB k kvs then rt ((bL kvs k).getD d)else er
abbrev CE(kvs:List (V×V))(n:Str)(as:List V):M V:=
 if isName "get" n then(match as with
  |[]=>er
  |k::r=>match r with
   |[]=>getM kvs k .none
   |d::_=>bd (one r) λd=>getM kvs k d)
 else er
inductive MK where
 |list
 |dict
 |inst (c:Str)
abbrev fU(v:V)(n:Str):M MK:=match v with
 |.ab l=>bd (dQ l) λo=>match o with
  |.list _=>if isName "append" n||isName "extend" n||isName "pop" n||isName "count" n then rt .list else er
  |.dict _ _=>if isName "get" n then rt .dict else er
  |.inst c fs=>if(eV fs n).isNone then rt (.inst c)else er
 |_=>er
abbrev eC(I:aT)(k:MK)(ov:V)(n:Str)(as:List V):M V:=match k with
 |.list=>bd (getL ov) λp=>vW p.1 p.2 n as
 |.dict=>bd (getD ov) λp=>CE p.2.1 n as
 |.inst c=>I.call (c,n) (ov::as)
abbrev callC(I:aT)(f:Str)(as:List V):M V:=bd (je (.inst f [])) λx=>bd (I.call (f,aM "__init__") (x::as)) λr=>if mF r then rt x else er
abbrev kJ(P:eG)(I:aT)(f:Str)(as:List V):M V:=
 match gF f with
 |some b=>fC b as
 |none=>if dR f P.classes then callC I f as else I.call (aM "",f) as
abbrev gU(I:aT)(aa:aO)(o:BoolOp):List Expr->M V
 |[]=>er
 |[e]=>I.ev aa e
 |e::r=>bd (I.ev aa e) λv=>bd (truthy v) λt=>match o,t with
  |.And,false=>rt v
  |.Or,true=>rt v
  |_,_=>gU I aa o r
abbrev gq(I:aT)(aa:aO)(o:BoolOp):List Expr->M Bool
 |[]=>rt (match o with|.And=>true|.Or=>false)
 |e::r=>bd (I.b7 aa e) λt=>match o,t with
  |.And,false=>rt false
  |.Or,true=>rt true
  |_,_=>gq I aa o r
abbrev lH(I:aT)(aa:aO):List (Option Expr)->List Expr->M (List (V×V))
 |[],vs=>(match vs with|[]=>rt []|_::_=>er)
 |k::ks,vs=>(match k with
  |none=>er
  |some k=>(match vs with|[]=>er|v::vs=>bd (I.ev aa k) λkv=>bd (I.ev aa v) λvv=>bd (lH I aa ks vs) λr=>rt ((kv,vv)::r)))
abbrev lI(I:aT)(aa:aO):Option Expr->M (Option Int)
 |none=>rt none
 |some e=>bd (I.ev aa e) λv=>bd (cR v) λi=>rt (some i)
abbrev isNm(e:Expr):Bool:=match cl e with|.name _=>true|_=>false
abbrev lJ(e:Expr):Bool:=match cl e with
 |.call f as ks=> !(isNm f && as.isEmpty && ks.isEmpty)
 |_=>true
abbrev vX(o:Expr)(as:List Expr)(apos pos:Pos):Bool:=lJ o && apos.endLine==pos.line && Nat.blt as.length 25
abbrev yW(as:List Expr):M Expr:=match as with|[]=>er|a::r=>match r with|[]=>rt a|_::_=>er
abbrev CF(I:aT)(aa:aO)(bs:List Expr):M V:=match bs with
 |[]=>er
 |x::r=>match r with
  |[]=>er
  |y::r=>match r with
   |[]=>bd (I.ev aa x) λa=>bd (I.ev aa y) λb=>bd (lG a) λxs=>bd (lG b) λys=>bd (one xs) λa1=>bd (one ys) λb1=>cg [.tup [a1,b1]]
   |_::_=>er
abbrev pj(is:List Int):Bool:=is.all (λi=>decide (2<=i) && decide (i<=10)) && decide (is.Pairwise (·<·))
abbrev CG(I:aT)(aa:aO)(bs:List Expr):M V:=bd (yW bs) λx=>bd (I.ev aa x) λa=>bd (getL a) λp=>bd (op (dZ p.2)) λis=>if pj is=true then cg (is.map .int)else er
inductive vY where
 |plain
 |zip (bs:List Expr)
 |set (bs:List Expr)
abbrev nZ(aa:aO)(f g:Str)(bs:List Expr):vY:=
 if isName "list" f && isName "zip" g && kind aa g==some .globalImplicit then .zip bs
 else if isName "sorted" f && isName "set" g && kind aa g==some .globalImplicit then .set bs else .plain
abbrev CH(aa:aO)(f:Str)(e:Expr):vY:=match cl e with
 |.call h bs ks=>(match cl h with|.name g=>if ks.isEmpty=true then nZ aa f g bs else .plain|_=>.plain)
 |_=>.plain
abbrev tZ(aa:aO)(f:Str)(as:List Expr):vY:=match as with|[]=>.plain|a::r=>match r with|[]=>CH aa f a|_::_=>.plain
abbrev kK(P:eG)(I:aT)(aa:aO)(f:Str)(as:List Expr):M V:=match tZ aa f as with
 |.zip bs=>CF I aa bs
 |.set bs=>CG I aa bs
 |.plain=>bd (dy I aa as) λvs=>kJ P I f vs
abbrev lK(P:eG)(I:aT)(aa:aO):Expr->M V
 |.Constant c _ _=>op (tX c)
 |.Name n _=>if¬(isName "__debug__" n||isName "__classdict__" n)=true then(match kind aa n with
  |some .globalImplicit=>op (qL n P.consts)
  |some .local=>op (cF aa.aj n)
  |some .cell=>op (cF aa.aj n)
  |some .free=>op (cF aa.aj n)
  |_=>er)else er
 |.BoolOp o vs _=>gU I aa o vs
 |.BinOp l o r _=>bd (I.ev aa l) λa=>bd (I.ev aa r) λb=>binop o a b
 |.UnaryOp .USub x _=>bd (I.ev aa x) λv=>bd (cR v) λi=>rt (.int (-i))
 |.UnaryOp .Not x _=>bd (I.ev aa x) λv=>bd (truthy v) λt=>rt (.bool !t)
 |.IfExp t b o _=>bd (I.b7 aa t) λc=>if c then I.ev aa b else I.ev aa o
 |.Dict ks vs _=>if ks.length<=15 then bd (je (.dict [] (some 0))) λd=>bd (lH I aa ks vs) λkvs=>bd (jf d kvs) λY=>rt d else er
 |.List es _=>bd (dy I aa es) λvs=>cg vs
 |.Tuple es _ _=>bd (dy I aa es) λvs=>bd (fits vs.length) λY=>rt (.tup vs)
 |.ListComp elt gens scope _=>comp P I aa elt gens scope
 |.Compare l [o] [r] _=>bd (I.ev aa l) λa=>bd (I.ev aa r) λb=>cmp o a b
 |.Call (.Attribute o n apos) as [] pos=>if vX o as apos pos then bd (I.ev aa o) λov=>bd (fU ov n) λk=>bd (dy I aa as) λvs=>eC I k ov n vs else er
 |.Call (.Name f _) as [] _=>
  if kind aa f==some .globalImplicit && !isName "__debug__" f then kK P I aa f as else er
 |.Attribute o n _=>if lJ o then bd (I.ev aa o) λov=>getAttr P ov n else er
 |.Subscript o (.Slice lo hi none _) _=>bd (I.ev aa o) λov=>bd (lI I aa lo) λa=>bd (lI I aa hi) λb=>
  bd (getL ov) λp=>cg (pb p.2 a b)
 |.Subscript o (.Slice none none (some e) _) _=>bd (I.ev aa o) λov=>bd (I.ev aa e) λs=>bd (cR s) λi=>if i= -1 then bd (getL ov) λp=>cg p.2.reverse else er
 |.Subscript o i _=>bd (I.ev aa o) λov=>bd (I.ev aa i) λiv=>getItem ov iv
 |_=>er
abbrev qR(I:aT)(aa:aO):Expr->M Bool
 |.UnaryOp .Not x _=>bd (I.b7 aa x) λt=>rt !t
 |.BoolOp o vs _=>gq I aa o vs
 |.Compare l [o] [r] _=>bd (I.ev aa l) λa=>bd (I.ev aa r) λb=>bd (cmp o a b) λc=>truthy c
 |.Compare .. =>er
 |.IfExp .. =>er
 |e=>bd (I.ev aa e) λv=>truthy v
abbrev isTup(e:Expr):Bool:=match cl e with|.tup _=>true|_=>false
abbrev CJ(bs:List Expr):Option Expr:=match bs with|[]=>none|x::r=>if r.isEmpty=true then some x else none
abbrev t4(aa:aO)(e:Expr):Option Expr:=match cl e with
 |.call h bs ks=>(match cl h with
  |.name f=>if isName "enumerate" f && kind aa f==some .globalImplicit && ks.isEmpty then CJ bs else none
  |_=>none)
 |_=>none
abbrev jK(I:aT)(aa:aO)(bP:Expr)(it:Expr):M Src:=match t4 aa it with
 |some x=>if isTup bP=true then bd (I.ev aa x) λv=>bd (lG v) λxs=>rt (.enum xs)else er
 |none=>bd (I.ev aa it) srcOf
abbrev CK(e:Expr):Bool:=match cl e with|.attr _ _=>true|_=>false
abbrev yX(e:Expr):Bool:=match cl e with
 |.name n=> !isName "__debug__" n
 |.qM=>true
 |.call _ _ _=>true
 |.attr _ _=>true
 |.sub o _=>CK o
 |_=>false
abbrev n5(t e:Expr):Bool:=match cl t with
 |.tup _=>(match cl e with|.tup vs=>vs.any yX|_=>true)
 |_=>true
abbrev pn(e:Expr):Bool:=match cl e with|.comp=>false|_=>true
abbrev t5(I:aT)(aa:aO)(t:Expr):M (Fl×aw):=match cl t with
 |.sub o i=>bd (I.ev aa o) λov=>bd (I.ev aa i) λiv=>bd (tW ov iv) λd=>
  bd (op (bL d.2.1 iv)) λY=>bd (jH d.1 (.dict (iP d.2.1 iv) (d.2.2.map (·+1)))) λY=>rt (.next,aa.aj)
 |_=>er
abbrev qS(P:eG)(I:aT)(aa:aO):Stmt->M (Fl×aw)
 |.Expr e _=>if pn e then bd (I.ev aa e) λY=>rt (.next,aa.aj)else er
 |.Assign [t] e _=>if n5 t e then bd (I.ev aa e) λv=>bd (ef P I aa t v) λaj=>rt (.next,aj)else er
 |.If t b o _=>bd (I.b7 aa t) λc=>if c then I.cZ aa b else I.cZ aa o
 |.While t b [] _=>pg (λaj=>I.b7 {aa with aj:=aj} t) (λaj=>I.cZ {aa with aj:=aj} b) bp aa.aj
 |.For bP it b [] _=>
  bd (jK I aa bP it) λsrc=>
  forL src (λv aj=>bd (ef P I {aa with aj:=aj} bP v) λax=>I.cZ {aa with aj:=ax} b) bp 0 aa.aj
 |.Return none _=>rt (.ret .none,aa.aj)
 |.Return (some e) _=>bd (I.ev aa e) λv=>rt (.ret v,aa.aj)
 |.Delete ts _=>bd (yW ts) (t5 I aa)
 |_=>er
abbrev n6(P:eG)(I:aT)(aa:aO):List Stmt->M (Fl×aw)
 |[]=>rt (.next,aa.aj)
 |s::r=>bd (qS P I aa s) λq=>match q.1 with
  |.next=>n6 P I {aa with aj:=q.2} r
  |.ret _=>rt q
abbrev r7:aw->List Str->List V->Option aw
 |aj,[],vs=>(match vs with|[]=>some aj|_::_=>none)
 |aj,x::xs,vs=>(match vs with|[]=>none|v::vs=>(jg aj x v).bind λax=>r7 ax xs vs)
abbrev qT(P:eG)(I:aT)(k:FK)(as:List V):M V:=
 bd (op (ij k P.tab)) λfd=>bd (op (r7 (qO fd.scope) fd.params as)) λaj=>
  bd (I.cZ ⟨fd.scope,aj⟩ fd.body) λr=>match r.1 with
   |.ret v=>rt v
   |.next=>rt .none
abbrev iR(P:eG):Nat->aT
 |0=>⟨λY Y=>er,λY Y=>er,λY Y=>er,λY Y=>er⟩
 |n+1=>
  let I:=iR P n
  ⟨lK P I,qR I,n6 P I,qT P I⟩
abbrev top:List Stmt:=Rw.main.body
abbrev cm(k:Nat):FD:=fdOf (jI (bodyOf (jI top 6)) k)
abbrev bm(k:Nat):FD:=fdOf (jI (bodyOf (jI top 10)) k)
abbrev lf(k:Nat):FD:=fdOf (jI top k)
abbrev Rx:List ((String×String)×FD):=[
 (("Congruence","__init__"),cm 0),(("Congruence","are_equal"),cm 3),(("Congruence","cause_apart"),cm 5),(("Congruence","classes"),cm 7),(("Congruence","conflict"),cm 8),(("Congruence","inner"),cm 9),(("Congruence","add_term"),cm 10),(("Congruence","enter"),cm 11),(("Congruence","signature"),cm 12),(("Congruence","look_up"),cm 13),(("Congruence","merge"),cm 14),(("Congruence","close"),cm 15),(("Congruence","join"),cm 16),(("Congruence","note_clash"),cm 17),(("Congruence","lengths"),cm 18),(("Congruence","take_off"),cm 19),(("Congruence","torn"),cm 20),(("Congruence","with_reason"),cm 21),(("Congruence","hang"),cm 22),(("Congruence","turn"),cm 23),(("Congruence","edges_between"),cm 24),(("Congruence","explain"),cm 25),(("Congruence","separate"),cm 26),(("Congruence","parted_by"),cm 27),(("Congruence","explain_cause"),cm 29),(("Congruence","joined"),cm 30),(("Congruence","watch"),cm 31),(("Congruence","place_watch"),cm 32),(("Congruence","tell_class"),cm 33),(("Congruence","tell"),cm 34),(("Congruence","explain_told"),cm 36),(("Congruence","push_level"),cm 37),(("Congruence","pop_levels"),cm 38),(("Congruence","undo"),cm 39),(("Congruence","part"),cm 41),(("Bank","__init__"),bm 0),(("Bank","declare_fun"),bm 6),(("Bank","fresh_const"),bm 8),(("Bank","op"),bm 13),(("Bank","args"),bm 14),(("Bank","data"),bm 16),(("Bank","make"),bm 19),(("Bank","true_term"),bm 24),(("","_law_turn"),lf 13),(("","_law_terms"),lf 14),(("","_law_homes"),lf 15),(("","_law_truth"),lf 16),(("","_law_clashes"),lf 17),(("","_law_standing"),lf 18),(("","_law_is_enough"),lf 19),(("","_law_shape"),lf 20),(("","_law_is_told"),lf 21),(("","_law_deed"),lf 22),(("","law"),lf 23)]
abbrev aY:eG where
 tab:=Rx.map λp=>((aM p.1.1,aM p.1.2),p.2)
 consts:=[(aM "VALUE_OPS",constOf (jI top 4)),(aM "BY_ARGUMENTS",constOf (jI top 5)),(aM "BOOL",constOf (jI top 8)),(aM "INT",constOf (jI top 9)),(aM "_law_nine",constOf (jI top 12))]
 classes:=[aM "Congruence",aM "Bank"]
 attrs:=(["bank","root","members","uses","value","apart","watchers","up","table","sides","told","news","queue","clash","clash_level","trail","marks","sort_names","sort_widths","fun_names","fun_args","fun_results","fresh_count","term_ops","term_args","term_sorts","term_datas","numbers","true_number","false_number"]:List String).map aM
abbrev it(n:Nat):aT:=iR aY n
end
variable{v:V}{n l N N':Nat}{prog:eH}{w:bQ}{A:bB}{E:ai→ao→Prop}{ik kP qU h':Heap}{u:ai}{C:Prop}{vs:Array ai}{X:Addr→Prop}{o:Obj}{c:Str}{s' s:ao}{ρ gr:Nat→Addr}
section
@[reducible] abbrev Kb(A:bB)(f:α->Sem β)(Q:β->ao->Prop)(E:ai->ao->Prop)(a:α)(s:ao):Prop:=aq (model prog w) A (f a) Q E s
def wB{prog:eH}{w:bQ}{s:ao}{m:Sem α}{f:α->Sem β}{Q:β->ao->Prop}(h:aq (model prog w) A m (Kb (prog:=prog) (w:=w) A f Q E) E s):aq (model prog w) A (m >>= f) Q E s:=b8 h
structure Mp where
 ρ:Nat->Addr
 σ:Nat->Addr
mutual
inductive VR(ρ:Nat->Addr)(N:Nat)(h:Heap):V->ai->Prop
 |none:VR ρ N h .none .none
 |bool (b:Bool):VR ρ N h (.bool b) (.bool b)
 |int (i:Int) (t:Tok):VR ρ N h (.int i) (.int i t)
 |str (x:Str) (t:Tok):VR ρ N h (.str x) (.str x t)
 |tup {l:List V} {a:Addr} {vs:List ai}:h.IsTuple a vs.toArray->aJ ρ N h l vs->VR ρ N h (.tup l) (.ref a)
 |ab {n:Nat}:n<N->VR ρ N h (.ab n) (.ref (ρ n))
 |cY {n:Nat} {a:Addr} {t u v:Tok}:n<=bH->IsRange h a 0 n 1 t u v->VR ρ N h (.cY n) (.ref a)
inductive aJ(ρ:Nat->Addr)(N:Nat)(h:Heap):List V->List ai->Prop
 |nil:aJ ρ N h [] []
 |cons {v:V} {u:ai} {l:List V} {vs:List ai}:VR ρ N h v u->aJ ρ N h l vs->aJ ρ N h (v::l) (u::vs)
end
structure cM(h h':Heap):Prop where
 tup:∀a items,h.IsTuple a items->h'.IsTuple a items
 cY:∀a n t u v,IsRange h a 0 (n:Nat) 1 t u v->IsRange h' a 0 n 1 t u v
def lL{l:Nat}(h:l<n+1)(e:l≠n):l<n:=Il (yY h) e
def cM.refl(h:Heap):cM h h:=⟨λY Y x=>x,λY Y Y Y Y x=>x⟩
def cM.trans(x:cM ik kP)(y:cM kP qU):cM ik qU:=⟨λa i z=>y.tup a i (x.tup a i z),λa n t u v z=>y.cY a n t u v (x.cY a n t u v z)⟩
def cM.of_keeps{h h':Heap}(k:∀b o,h.get? b=some o->h'.get? b=some o):cM h h':=⟨λa i q=>q.imp λo q=>⟨k a o q.1,q.2⟩,λa n t u v z=>k a _ z⟩
variable{l:List V}{vs:List ai}
section
variable{h:Heap}
def VR.mono(jj:∀n,n<N->gr n=ρ n)(hN:N<=N')(k:cM h h')(r:VR ρ N h v u):VR gr N' h' v u:=VR.rec (motive_1:=λv u Y=>VR gr N' h' v u) (motive_2:=λl vs Y=>aJ gr N' h' l vs) .none .bool .int .str (λht Y ih=>.tup (k.tup _ _ ht) ih) (λ{n} hn=>jj n hn▸ .ab (eM hn hN)) (λhc hr=>.cY hc (k.cY _ _ _ _ _ hr)) .nil (λY Y a b=>.cons a b) r
def aJ.lM{us:List ai}(r:aJ ρ N h [] us):us=[]:=by cases r;rfl
def aJ.iq{us:List ai}(r:aJ ρ N h (v::l) us)(k:∀u vs,us=u::vs->VR ρ N h v u->aJ ρ N h l vs->C):C:=by
 cases r with|cons a b=>exact k _ _ rfl a b
def aJ.mapR(f:∀v u,v∈l->VR ρ N h v u->VR gr N' h' v u)(r:aJ ρ N h l vs):aJ gr N' h' l vs:=by
 induction l generalizing vs with
 |nil=>rw[r.lM];exact .nil
 |cons v l ih=>exact r.iq λu us e a b=>by subst e;exact .cons (f v u (.head _) a) (ih (λv u h=>f v u (.tail _ h)) b)
def aJ.mono(jj:∀n,n<N->gr n=ρ n)(hN:N<=N')(k:cM h h'){v:List V}{u:List ai}(r:aJ ρ N h v u):aJ gr N' h' v u:=r.mapR λY Y Y a=>a.mono jj hN k
def aJ.length{vs:List ai}(r:aJ ρ N h l vs):vs.length=l.length:=by
 induction l generalizing vs with
 |nil=>rw[r.lM];rfl
 |cons v l ih=>exact r.iq λu us e a b=>(congrArg n7 e).trans (congrArg n8 (ih (vs:=us) b))
def aJ.get{vs:List ai}{i:Nat}(r:aJ ρ N h l vs)(e:l[i]? =some v):∃u,vs[i]? =some u/\VR ρ N h v u:=by
 induction l generalizing vs i with
 |nil=>cases e
 |cons x l ih=>
  refine r.iq λu us q a b=> ?_;clear r;subst q;cases i with
  |zero=>exact⟨u,rfl,bF e▸a⟩
  |succ i=>exact ih (vs:=us) (i:=i) b e
def aJ.append{l':List V}{lN:List ai}(r:aJ ρ N h l vs)(r':aJ ρ N h l' lN):aJ ρ N h (l++l') (vs++lN):=by
 induction l generalizing vs with
 |nil=>rw[r.lM];exact r'
 |cons v l ih=>exact r.iq λu us e a b=>by subst e;exact .cons a (ih b)
def aJ.take(n:Nat)(r:aJ ρ N h l vs):aJ ρ N h (l.take n) (vs.take n):=by
 induction l generalizing vs n with
 |nil=>rw[r.lM,Ry,Ry];exact .nil
 |cons v l ih=>
  cases n with
  |zero=>exact .nil
  |succ n=>exact r.iq λu us e a b=>by subst e;exact .cons a (ih n b)
def aJ.drop(n:Nat)(r:aJ ρ N h l vs):aJ ρ N h (l.drop n) (vs.drop n):=by
 induction l generalizing vs n with
 |nil=>rw[r.lM,Rz,Rz];exact .nil
 |cons v l ih=>
  cases n with
  |zero=>exact r
  |succ n=>exact r.iq λu us e a b=>by subst e;exact ih n b
def aJ.reverse(r:aJ ρ N h l vs):aJ ρ N h l.reverse vs.reverse:=by
 induction l generalizing vs with
 |nil=>rw[r.lM];exact .nil
 |cons v l ih=>exact r.iq λu us e a b=>by rw[e,RA,RA];exact(ih b).append (.cons a .nil)
def VR.out(r:VR ρ N h v u):match v with
 |.none=>u= .none|.bool b=>u= .bool b|.int i=>∃t,u= .int i t|.str x=>∃t,u= .str x t|.tup l=>∃a vs,u= .ref a/\h.IsTuple a (gG vs)/\aJ ρ N h l vs
 |.ab n=>u= .ref (ρ n)/\n<N|.cY n=>∃a t u' v',u= .ref a/\n<=bH/\IsRange h a 0 n 1 t u' v':=VR.casesOn r rfl (λY=>rfl) (λY t=>⟨t,rfl⟩) (λY t=>⟨t,rfl⟩) (λht hs=>⟨_,_,rfl,ht,hs⟩) (λhn=>⟨rfl,hn⟩) (λhc hr=>⟨_,_,_,_,rfl,hc,hr⟩)
def aJ.ints{is:List Int}(r:aJ ρ N h l vs)(e:dZ l=some is):IntsAre vs is:=by
 induction l generalizing vs is with
 |nil=>rw[r.lM];cases e;exact .nil
 |cons v l ih=>
  refine r.iq λu us q a b=> ?_;clear r;subst q;cases v<;>first|exact noNS e|skip
  obtain⟨q,hq,e'⟩:=gV.mp e;obtain⟨t,ht⟩:=a.out;rw[ht,<-e'];exact .cons _ t (ih b hq)
end
mutual
abbrev iu(w:bQ):V->Int
 |.int i=>hashInt i
 |.str s=>hashStr w s
 |.tup l=>reduceHash (r8 (mI w l))
 |_=>0
abbrev mI(w:bQ):List V->List Int
 |[]=>[]
 |v::r=>iu w v::mI w r
end
inductive ER(w:bQ)(ρ:Nat->Addr)(N:Nat)(h:Heap):List dc->List (V×V)->Prop
 |nil:ER w ρ N h [] []
 |cons {k v:V} {key val:ai} {es:List dc} {kvs:List (V×V)}:VR ρ N h k key->VR ρ N h v val->ER w ρ N h es kvs->ER w ρ N h (⟨iu w k,key,val⟩::es) ((k,v)::kvs)
inductive FE(w:bQ)(ρ:Nat->Addr)(N:Nat)(h:Heap):List dc->List (Str×V)->Prop
 |nil:FE w ρ N h [] []
 |cons {n:Str} {t:Tok} {v:V} {val:ai} {es:List dc} {fs:List (Str×V)}:VR ρ N h v val->FE w ρ N h es fs->FE w ρ N h (⟨qV w.params n,.str n t,val⟩::es) ((n,v)::fs)
def ER.mono{ρ gr:Nat->Addr}{N N':Nat}{h h':Heap}(jj:∀n,n<N->gr n=ρ n)(hN:N<=N')(k:cM h h'){es:List dc}{kvs:List (V×V)}(r:ER w ρ N h es kvs):ER w gr N' h' es kvs:=by
 induction r with
 |nil=>exact .nil
 |cons a b _ ih=>exact .cons (a.mono jj hN k) (b.mono jj hN k) ih
def FE.mono{ρ gr:Nat->Addr}{N N':Nat}{h h':Heap}(jj:∀n,n<N->gr n=ρ n)(hN:N<=N')(k:cM h h'){es:List dc}{kvs:List (Str×V)}(r:FE w ρ N h es kvs):FE w gr N' h' es kvs:=by
 induction r with
 |nil=>exact .nil
 |cons a _ ih=>exact .cons (a.mono jj hN k) ih
abbrev fe:List (V×V)->Prop
 |[]=>True
 |p::r=>(∀q∈r,V.beq q.1 p.1=false)/\fe r
structure Fix where
 prog:eH
 w:bQ
 K:Frag
 h₀:Heap
 ca:Str->Addr
 fa:FK->Addr
 os:OsState
 P:eG
 fz:Obj
@[reducible] abbrev Fix.m(F:Fix):Model:=model F.prog F.w
abbrev OR(F:Fix)(ρ:Nat->Addr)(N:Nat)(h:Heap)(l:Nat)(a:Addr):O->Prop
 |.list xs=>ρ l=a/\∃vs n,h.get? a=some (listOf (gG vs) n)/\aJ ρ N h xs vs/\xs.length<=bH
 |.dict kvs ep=>ρ l=a/\∃es n,h.get? a=some (dictOf es n)/\ER F.w ρ N h es kvs/\fe kvs/\kvs.length<=bH/\∀e,ep=some e->n=e
 |.inst c fs=>∃es n,h.get? (ρ l)=some (instObj (F.ca c) a)/\h.get? a=some (dictOf es n)/\FE F.w ρ N h es fs/\(fs.map (·.1)).Nodup/\dR c F.P.classes=true
abbrev O.lst(o:O):Bool:=match o with|.list _=>true|_=>false
structure ar(F:Fix)(μ:Mp)(st:ah)(s:ao):Prop where
 base:∀b o,F.h₀.get? b=some o->s.heap.get? b=some o
 out:∀l,l<st.length->F.h₀.get? (μ.σ l)=none
 inj:∀l l',l<st.length->l'<st.length->μ.σ l=μ.σ l'->l=l'
 obj:∀l o,st[l]? =some o->OR F μ.ρ st.length s.heap l (μ.σ l) o
 gens:s.gens= #[]
 os:s.os=F.os
 fz:∃xs,st[0]? =some (.list xs)/\s.heap.get? (μ.σ 0)=some F.fz
structure Step(X:Addr->Prop)(μ:Mp)(N:Nat)(h:Heap)(aI:Mp)(N':Nat)(h':Heap):Prop where
 len:N<=N'
 ρ:∀l,l<N->aI.ρ l=μ.ρ l
 σ:∀l,l<N->aI.σ l=μ.σ l
 new:∀l,N<=l->l<N'->h.get? (aI.σ l)=none
 keep:∀b o,h.get? b=some o->¬X b->(∀l,l<N->b≠μ.σ l)->h'.get? b=some o
 mJ:∀b o,h.get? b=some o->∃o',h'.get? b=some o'
 kQ:cM h h'
abbrev cq:Addr->Prop:=λY=>False
def Step.refl(X:Addr->Prop)(μ:Mp)(N:Nat)(h:Heap):Step X μ N h μ N h:=⟨bG _,λY Y=>rfl,λY Y=>rfl,λl a b=>absurd (eM b a) (qW _),λY Y e Y Y=>e,λY o e=>⟨o,e⟩,cM.refl h⟩
def Step.trans{Im Io CL:Mp}{CM CN Ip:Nat}(x:Step X Im CM ik Io CN kP)(y:Step X Io CN kP CL Ip qU):Step X Im CM ik CL Ip qU where
 len:=bx x.len y.len
 ρ:=λl hl=>(y.ρ l (eM hl x.len)).trans (x.ρ l hl)
 σ:=λl hl=>(y.σ l (eM hl x.len)).trans (x.σ l hl)
 new:=λl h1 h2=>by
  by_cases hl:l<CN
  .rw[y.σ l hl];exact x.new l h1 hl
  .cases e:ik.get? (CL.σ l)with
   |none=>rfl
   |some o=>
    obtain⟨o',e'⟩:=x.mJ _ _ e;have:=y.new l (CP hl) h2;rw[e']at this;cases this
 keep:=λb o e hX hb=>y.keep b o (x.keep b o e hX hb) hX λl hl=>by
  by_cases bY:l<CM
  .rw[x.σ l bY];exact hb l bY
  .intro q;have:=x.new l (CP bY) hl;rw[<-q,e]at this;cases this
 mJ:=λb o e=>(x.mJ b o e).elim λo' e'=>y.mJ b o' e'
 kQ:=x.kQ.trans y.kQ
variable{aI:Mp}
def Step.weaken{Y:Addr->Prop}{μ:Mp}{N N':Nat}{h h':Heap}(x:Step X μ N h aI N' h')(RB:∀b o,h.get? b=some o->X b->Y b):Step Y μ N h aI N' h':={x with keep:=λb o e hY hb=>x.keep b o e (λhX=>hY (RB b o e hX)) hb}
def Step.VR{μ:Mp}{N N':Nat}{h h':Heap}(x:Step X μ N h aI N' h')(r:VR μ.ρ N h v u):VR aI.ρ N' h' v u:=r.mono x.ρ x.len x.kQ
def Step.aJ{μ:Mp}{N N':Nat}{h h':Heap}(x:Step X μ N h aI N' h'){v:List V}{u:List ai}(r:aJ μ.ρ N h v u):aJ aI.ρ N' h' v u:=r.mono x.ρ x.len x.kQ
variable{o:O}
section
variable{F:Fix}{μ:Mp}{st:ah}
def OR.mono{ρ gr:Nat->Addr}{N N':Nat}{h h':Heap}{l:Nat}(hl:l<N)(x:OR F ρ N h l a o)(jj:∀n,n<N->gr n=ρ n)(hN:N<=N')(k:cM h h')
 (ha:∀ob,h.get? a=some ob->h'.get? a=some ob) (hr:∀c fs,o= .inst c fs->∀ob,h.get? (ρ l)=some ob->h'.get? (ρ l)=some ob):OR F gr N' h' l a o:=by
 cases o with
 |list xs=>obtain⟨e,vs,n,g,r,c⟩:=x;exact⟨(jj l hl).trans e,vs,n,ha _ g,r.mono jj hN k,c⟩
 |dict kvs ep=>obtain⟨e,es,n,g,r,nd⟩:=x;exact⟨(jj l hl).trans e,es,n,ha _ g,r.mono jj hN k,nd⟩
 |inst c fs=>obtain⟨es,n,g1,g2,r,nd⟩:=x;exact⟨es,n,by rw[jj l hl];exact hr c fs rfl _ g1,ha _ g2,r.mono jj hN k,nd⟩
def ar.payload(S:ar F μ st s){l:Nat}(hl:l<st.length):∃o,s.heap.get? (μ.σ l)=some o/\(o.cls= .type "list"\/o.cls= .type "dict"):=by
 have:=S.obj l st[l] (dS hl);cases e:st[l]with
 |list xs=>rw[e]at this;obtain⟨_,vs,n,g,_⟩:=this;exact⟨_,g,.inl rfl⟩
 |dict kvs ep=>rw[e]at this;obtain⟨_,es,n,g,_⟩:=this;exact⟨_,g,.inr rfl⟩
 |inst c fs=>rw[e]at this;obtain⟨es,n,_,g,_⟩:=this;exact⟨_,g,.inr rfl⟩
def ar.yZ(S:ar F μ st s){l:Nat}{fs:List (Str×V)}(hl:st[l]? =some (.inst c fs))(hk:k<st.length):μ.ρ l≠μ.σ k:=by
 intro e;obtain⟨es,n,g1,_⟩:=S.obj l _ hl;obtain⟨o,g,hc⟩:=S.payload hk;rw[<-e,g1]at g;cases g;rcases hc with hc|hc<;>cases hc
def y6{h h':Heap}{o:Obj}(ho:h.get? a=some o)(hc:o.cls= .type "list"\/o.cls= .type "dict")(k:∀b ob,b≠a->h.get? b=some ob->h'.get? b=some ob):cM h h':=by
 refine⟨λb items q=>q.imp λob q=>⟨k b ob (λe=> ?_) q.1,q.2⟩,λb n t u v hr=>k b _ ?_ hr⟩
 .obtain⟨mK,n9,_⟩:=q;subst e;rw[ho]at mK;cases mK;rcases hc with hc|hc<;>rw[hc]at n9<;>exact absurd (pq n9) (by decide)
 .rintro rfl;have vZ:=ho.symm.trans hr;cases vZ;rcases hc with hc|hc<;>exact absurd (pq hc) (by decide)
def ar.keeps(S:ar F μ st s)(k:∀b o,s.heap.get? b=some o->s'.heap.get? b=some o)(hg:s'.gens=s.gens)(ho:s'.os=s.os):ar F μ st s':=
 ⟨λb o e=>k b o (S.base b o e),S.out,S.inj,λl o e=>(S.obj l o e).mono (b9.mp e).1 (λY Y=>rfl) (bG _) (cM.of_keeps k) (λY g=>k _ _ g) (λY Y Y Y g=>k _ _ g),hg.trans S.gens,ho.trans S.os,S.fz.imp λY q=>⟨q.1,k _ _ q.2⟩⟩
def Step.of_keeps{N:Nat}{h h':Heap}(k:∀b o,h.get? b=some o->h'.get? b=some o):Step X μ N h μ N h':=⟨bG _,λY Y=>rfl,λY Y=>rfl,λl a b=>absurd (eM b a) (qW _),λb o e Y Y=>k b o e,λb o e=>⟨o,k b o e⟩,cM.of_keeps k⟩
def ar.t6(S:ar F μ st s):0<st.length:=S.fz.elim λY a=>(b9.mp a.1).1
def ar.v7(S:ar F μ st s){l:Nat}(h:st[l]? =some o)(ho:O.lst o=false):l≠0:=λe=>by
 obtain⟨xs,a,_⟩:=S.fz;rw[e,a]at h;rw[<-bF h]at ho;exact cu ho
abbrev Mp.put(μ:Mp)(N:Nat)(r a:Addr):Mp:=⟨λl=>if l=N then r else μ.ρ l,λl=>if l=N then a else μ.σ l⟩
def Mp.t8{μ:Mp}{N l:Nat}(h:l<N):(μ.put N r a).ρ l=μ.ρ l:=if_neg (eN h)
def Mp.ua{μ:Mp}{N l:Nat}(h:l<N):(μ.put N r a).σ l=μ.σ l:=if_neg (eN h)
def ar.alloc(S:ar F μ st s)(k:∀b ob,s.heap.get? b=some ob->s'.heap.get? b=some ob)(hg:s'.gens=s.gens)(lO:s'.os=s.os)
 (ha:s.heap.get? a=none) (x:OR F (μ.put st.length r a).ρ (st.length+1) s'.heap st.length a o):
 ar F (μ.put st.length r a) (st++[o]) s'/\Step cq μ st.length s.heap (μ.put st.length r a) (st++[o]).length s'.heap:=by
 have hlen:(st++[o]).length=st.length+1:=by simp
 have pv:F.h₀.get? a=none:=by
  cases e:F.h₀.get? a with
  |none=>rfl
  |some ob=>rw[S.base _ _ e]at ha;cases ha
 have ba:∀l,l<st.length->μ.σ l≠a:=λl hl e=>by
  obtain⟨ob,g,_⟩:=S.payload hl;rw[e,ha]at g;cases g
 refine⟨⟨λb ob e=>k _ _ (S.base b ob e),λl hl=> ?_,λl l' hl bY e=> ?_,λl ob e=> ?_,hg.trans S.gens,lO.trans S.os,S.fz.imp λY q=>⟨(oe S.t6).trans q.1,(congrArg s'.heap.get? (Mp.ua S.t6)).trans (k _ _ q.2)⟩⟩,⟨aG ak af [.q af aK] rfl hlen,λl hl=>Mp.t8 hl,λl hl=>Mp.ua hl,λl h1 h2=> ?_,λb ob e Y Y=>k b ob e,λb ob e=>⟨ob,k b ob e⟩,cM.of_keeps k⟩⟩
 .rw[hlen]at hl;by_cases bY:l=st.length
  .simp only[Mp.put,bY];exact pv
  .simp only[Mp.put,bY];exact S.out l (lL hl bY)
 .rw[hlen]at hl bY;simp only[Mp.put]at e;by_cases h1:l=st.length<;>by_cases h2:l'=st.length
  ·(exact dU (bq af av [.l az aK,.q av ak] rfl hl h2) (bq af av [.l az aK,.q av ak] rfl bY h1))
  .rw[if_pos h1,if_neg h2]at e;exact absurd e.symm (ba l' (lL bY h2))
  .rw[if_neg h1,if_pos h2]at e;exact absurd e (ba l (lL hl h1))
  .rw[if_neg h1,if_neg h2]at e;exact S.inj l l' (lL hl h1) (lL bY h2) e
 .rw[hlen];by_cases hl:l<st.length
  .rw[oe hl]at e;rw[Mp.ua hl];exact(S.obj l ob e).mono hl (λn hn=>Mp.t8 hn) (mM _) (cM.of_keeps k) (λY g=>k _ _ g) (λY Y Y Y g=>k _ _ g)
  .have eg:l=st.length:=by
    have:=(b9.mp e).1;rw[hlen]at this;exact dU (aG af ak [.l az aK] rfl this) (aG af ak [.l af ak] rfl (fT.mp hl))
   subst eg;rw[za (bG _)]at e;simp only[zb,v8,eW]at e;subst e;simpa[Mp.put]using x
 .have:l=st.length:=dU (bq av ak [.e af aK,.l bD af] rfl hlen h2) (aG af ak [.l af ak] rfl h1);simp only[Mp.put,this];exact ha
def ar.change{l:Nat}(S:ar F μ st s)(hl:l<st.length)(hz:l≠0)(k:∀b ob,b≠μ.σ l->s.heap.get? b=some ob->s'.heap.get? b=some ob)(hg:s'.gens=s.gens)(lO:s'.os=s.os)
 (x:OR F μ.ρ st.length s'.heap l (μ.σ l) o):
 ar F μ (st.set l o) s'/\Step cq μ st.length s.heap μ (st.set l o).length s'.heap:=by
 obtain⟨ob,g,hc⟩:=S.payload hl;have im:=y6 g hc k;have hlen:(st.set l o).length=st.length:=lP;refine⟨⟨λb oo e=>k b oo (λq=> ?_) (S.base b oo e),λn hn=>S.out n (hlen▸hn),λn m hn hm e=>S.inj n m (hlen▸hn) (hlen▸hm) e,λn oo e=> ?_,hg.trans S.gens,lO.trans S.os,S.fz.imp λY q=>⟨(mN hz).trans q.1,k _ _ (λe=>hz (S.inj _ _ S.t6 hl e).symm) q.2⟩⟩,⟨by rw[hlen];exact bG _,λY Y=>rfl,λY Y=>rfl,λn a b=>absurd (hlen▸b) (fT.mpr a),λb oo e Y hb=>k b oo (hb l hl) e,λb oo e=> ?_,im⟩⟩
 .have:=S.out l hl;rw[<-q,e]at this;cases this
 .rw[hlen];by_cases hn:n=l
  .subst hn;rw[CQ hl]at e;cases e;exact x
  .rw[mN (b0 hn)]at e;have Iq:=(b9.mp e).1;refine(S.obj n oo e).mono Iq (λY Y=>rfl) (bG _) im (λY g'=>k _ _ (λq=>hn (S.inj n l Iq hl q)) g') (λc fs q Y g'=>k _ _ ?_ g');subst q;exact S.yZ e hl
 .by_cases hb:b=μ.σ l
  .subst hb;cases o with
   |list xs=>obtain⟨_,vs,n,g,_⟩:=x;exact⟨_,g⟩
   |dict kvs ep=>obtain⟨_,es,n,g,_⟩:=x;exact⟨_,g⟩
   |inst c fs=>obtain⟨es,n,_,g,_⟩:=x;exact⟨_,g⟩
  .exact⟨oo,k b oo hb e⟩
end
end
variable{r:Bool}{x:V}{f:V→V→Option Bool}{U:ah}{ep:Option Nat}{items:Array ai}{F:Fix}{μ:Mp}
section
def bd_some{m:M α}{f:α->M β}{st:ah}{r:β×ah}(h:bd m f st=some r):∃a au,m st=some (a,au)/\f a au=some r:=by
 revert h;exact Option.rec (motive:=λo=>(match o with|some (a,U)=>f a U|none=>none)=some r->∃a au,o=some (a,au)/\f a au=some r) (λh=>noNS h) (λp h=>⟨p.1,p.2,rfl,h⟩) (m st)
def if_some{c:Prop} [Decidable c] {m:M α}{st:ah}{r:α×ah}(h:(if c then m else er) st=some r):c/\m st=some r:=by
 by_cases q:c
 .exact⟨q,(congrFun (if_pos q) st).symm.trans h⟩
 .exact noNS ((congrFun (if_neg q) st).symm.trans h)
def bc{m:M α}{f:α->M β}{st:ah}{r:β×ah}(h:bd m f st=some r)(k:∀a au,m st=some (a,au)->f a au=some r->C):C:=oe2_2 (bd_some h) k
def rt_some{a b:α}{st:ah}(h:rt a st=some (b,U)):a=b/\st=U:=gb (bF h)
def op_some{x:Option α}{b:α}{st:ah}(h:op x st=some (b,U)):x=some b/\st=U:=zc (motive:=λx=>op x st=some (b,U)->x=some b/\st=U) x (λh=>noNS h) (λY h=>(rt_some h).imp_left (congrArg some)) h
def fits_some{st:ah}{u:Unit}(h:fits n st=some (u,U)):n<=bH/\st=U:=(if_some h).imp_right λh=>(gb (bF h)).2
variable{o:O}
def getO_some{st:ah}(h:dQ l st=some (o,U)):st[l]? =some o/\st=U:=by
 unfold dQ at h;cases e:st[l]? with
 |none=>rw[e]at h;exact noNS h
 |some p=>rw[e]at h;exact(gb (bF h)).imp_left (congrArg some)
def putO_some{st:ah}{u:Unit}(h:jH l o st=some (u,U)):l<st.length/\U=st.set l o:=by
 by_cases q:l<st.length
 .exact⟨q,(gb (bF ((if_pos q).symm.trans h))).2.symm⟩
 .exact noNS ((if_neg q).symm.trans h)
def newO_some{v:V}{st:ah}(h:je o st=some (v,U)):v= .ab st.length/\U=st++[o]:=(gb (bF h)).imp CR CR
def newL_some{xs:List V}{v:V}{st:ah}(h:cg xs st=some (v,U)):xs.length<=bH/\v= .ab st.length/\U=st++[.list xs]:=by
 obtain⟨u,au,h1,h2⟩:=bd_some h;obtain⟨h3,rfl⟩:=fits_some h1;exact⟨h3,newO_some h2⟩
def setLs_some{xs:List V}{st:ah}{u:Unit}(h:gE l xs st=some (u,U)):xs.length<=bH/\l<st.length/\U=st.set l (.list xs)/\l≠0:=by
 obtain⟨u,au,h1,h2⟩:=bd_some h;obtain⟨h3,rfl⟩:=fits_some h1;obtain⟨h4,h2⟩:=if_some h2;obtain⟨h5,h6⟩:=putO_some h2;exact⟨h3,h5,h6,h4⟩
def CS{v:V}{f:Nat->M α}{st:ah}{r:α×ah}(h:(match v with|.ab l=>f l|_=>er) st=some r)(k:∀l,v= .ab l->f l st=some r->C):C:=V.casesOn (motive_1:=λw=>v=w->(match w with|.ab l=>f l|_=>er) st=some r->C) v (λY h=>noNS h) (λY Y h=>noNS h) (λY Y h=>noNS h) (λY Y h=>noNS h) (λY Y h=>noNS h) (λl e h=>k l e h) (λY Y h=>noNS h) rfl h
def qX{a b:α}{st:ah}(h:some (a,st)=some (b,U)):a=b/\st=U:=gb (bF h)
def getI_some{v:V}{i:Int}{st:ah}(h:cR v st=some (i,U)):v= .int i/\st=U:=V.casesOn (motive_1:=λv=>cR v st=some (i,U)->v= .int i/\st=U) v (λh=>noNS h) (λY h=>noNS h) (λY h=>(qX h).imp_left (congrArg V.int)) (λY h=>noNS h) (λY h=>noNS h) (λY h=>noNS h) (λY h=>noNS h) h
def getT_some{v:V}{xs:List V}{st:ah}(h:lG v st=some (xs,U)):v= .tup xs/\st=U:=V.casesOn (motive_1:=λv=>lG v st=some (xs,U)->v= .tup xs/\st=U) v (λh=>noNS h) (λY h=>noNS h) (λY h=>noNS h) (λY h=>noNS h) (λY h=>(qX h).imp_left (congrArg V.tup)) (λY h=>noNS h) (λY h=>noNS h) h
def getN_some{v:V}{st:ah}(h:qK v st=some (l,U)):v= .ab l/\st=U:=CS h λk e h=>(qX h).imp_left λq=>e.trans (congrArg V.ab q)
def one_some{as:List V}{v:V}{st:ah}(h:one as st=some (v,U)):as=[v]/\st=U:=by
 cases as with
 |nil=>exact noNS h
 |cons a r=>cases r with
  |nil=>exact(qX h).imp_left λe=>congrArg (λx=>[x]) e
  |cons=>exact noNS h
abbrev RC(e:Expr):Cl->Prop
 |.name n=>∃p,e= .Name n p
 |.tup ts=>∃k p,e= .Tuple ts k p
 |.attr o n=>∃p,e= .Attribute o n p
 |.sub o i=>∃p,e= .Subscript o i p
 |.const c=>∃k p,e= .Constant c k p
 |.call f as ks=>∃p,e= .Call f as ks p
 |.qM=>(∃es p,e= .List es p)\/∃ks vs p,e= .Dict ks vs p
 |.comp=>(∃a b c d,e= .ListComp a b c d)\/(∃a b c d,e= .SetComp a b c d)\/∃a b c d f,e= .DictComp a b c d f
 |.no=>True
def og(e:Expr):RC e (cl e):=by
 cases e<;>first|exact trivial|exact(⟨_,rfl⟩)|exact(⟨_,_,rfl⟩)|exact .inl (⟨_,_,rfl⟩)|exact .inr (⟨_,_,_,rfl⟩)|exact .inl (⟨_,_,_,_,rfl⟩)|exact .inr (.inl (⟨_,_,_,_,rfl⟩))|exact .inr (.inr (⟨_,_,_,_,_,rfl⟩))
def one1_some{as:List Expr}{v:Expr}{st:ah}(h:yW as st=some (v,U)):as=[v]/\st=U:=by
 cases as with
 |nil=>exact noNS h
 |cons a r=>cases r with
  |nil=>exact(qX h).imp_left λe=>congrArg (λx=>[x]) e
  |cons=>exact noNS h
def zd{as:List V}{f:V->M α}{st:ah}{r:α×ah}(h:bd (one as) f st=some r)(k:∀v,as=[v]->f v st=some r->C):C:=bc h λv au h1 h2=>(one_some h1).elim λe1 e2=>k v e1 (by rw[e2];exact h2)
variable{a:V}
def kX{f:Int->M α}{st:ah}{r:α×ah}(h:bd (cR a) f st=some r)(k:∀i,a= .int i->f i st=some r->C):C:=bc h λv au h1 h2=>(getI_some h1).elim λe1 e2=>k v e1 (by rw[e2];exact h2)
def ze{f:List V->M α}{st:ah}{r:α×ah}(h:bd (lG a) f st=some r)(k:∀xs,a= .tup xs->f xs st=some r->C):C:=bc h λv au h1 h2=>(getT_some h1).elim λe1 e2=>k v e1 (by rw[e2];exact h2)
def RD{f:Nat->M α}{st:ah}{r:α×ah}(h:bd (qK a) f st=some r)(k:∀l,a= .ab l->f l st=some r->C):C:=bc h λv au h1 h2=>(getN_some h1).elim λe1 e2=>k v e1 (by rw[e2];exact h2)
def ub{x:Option β}{f:β->M α}{st:ah}{r:α×ah}(h:bd (op x) f st=some r)(k:∀i,x=some i->f i st=some r->C):C:=bc h λv au h1 h2=>(op_some h1).elim λe1 e2=>k v e1 (by rw[e2];exact h2)
def RE{f:List V->M α}{st:ah}{r:α×ah}(h:(match o with|.list xs=>f xs|_=>er) st=some r)(k:∀xs,o= .list xs->f xs st=some r->C):C:=O.casesOn (motive:=λw=>o=w->(match w with|.list l=>f l|_=>er) st=some r->C) o (λl e h=>k l e h) (λY Y Y h=>noNS h) (λY Y Y h=>noNS h) rfl h
def RF{f:List (V×V)->Option Nat->M α}{st:ah}{r:α×ah}(h:(match o with|.dict xs e=>f xs e|_=>er) st=some r)(k:∀xs ep,o= .dict xs ep->f xs ep st=some r->C):C:=O.casesOn (motive:=λw=>o=w->(match w with|.dict xs e=>f xs e|_=>er) st=some r->C) o (λY Y h=>noNS h) (λl ep e h=>k l ep e h) (λY Y Y h=>noNS h) rfl h
def getL_some{v:V}{p:Nat×List V}{st:ah}(h:getL v st=some (p,U)):v= .ab p.1/\st[p.1]? =some (.list p.2)/\st=U:=
 CS h λl e h=>bc h λo au h1 h2=>RE h2 λxs e3 h3=>by have q:=getO_some h1;have t:=qX h3;rw[<-t.1,<-t.2,<-q.2];exact⟨e,q.1.trans (congrArg some e3),rfl⟩
def getD_some{v:V}{p:Nat×List (V×V)×Option Nat}{st:ah}(h:getD v st=some (p,U)):v= .ab p.1/\st[p.1]? =some (.dict p.2.1 p.2.2)/\st=U:=
 CS h λl e h=>bc h λo au h1 h2=>RF h2 λxs ep e3 h3=>by have q:=getO_some h1;have t:=qX h3;rw[<-t.1,<-t.2,<-q.2];exact⟨e,q.1.trans (congrArg some e3),rfl⟩
def getDK_some{v k:V}{p:Nat×List (V×V)×Option Nat}{st:ah}(h:tW v k st=some (p,U)):v= .ab p.1/\st[p.1]? =some (.dict p.2.1 p.2.2)/\eB k p.2.1=true/\st=U:=
 bc h λq au h1 h2=>by have a:=getD_some h1;have b:=if_some h2;have t:=qX b.2;rw[<-t.1,<-t.2];exact⟨a.1,a.2.1,b.1,a.2.2⟩
def cz(h:false=true):C:=cu h
def V.beq_eq{b:V}:V.beq a b=true->a=b:=
 @V.rec (λa=>∀b,V.beq a b=true->a=b) (λa=>∀b,V.nU a b=true->a=b)
  (λb=>V.casesOn (motive_1:=λb=>V.beq .none b=true->V.none=b) b (λY=>rfl) (λY h=>cz h) (λY h=>cz h) (λY h=>cz h) (λY h=>cz h) (λY h=>cz h) (λY h=>cz h))
  (λx b=>V.casesOn (motive_1:=λb=>V.beq (.bool x) b=true->V.bool x=b) b (λh=>cz h) (λY h=>congrArg V.bool (eq_of_beq h)) (λY h=>cz h) (λY h=>cz h) (λY h=>cz h) (λY h=>cz h) (λY h=>cz h))
  (λx b=>V.casesOn (motive_1:=λb=>V.beq (.int x) b=true->V.int x=b) b (λh=>cz h) (λY h=>cz h) (λY h=>congrArg V.int (of_decide_eq_true h)) (λY h=>cz h) (λY h=>cz h) (λY h=>cz h) (λY h=>cz h))
  (λx b=>V.casesOn (motive_1:=λb=>V.beq (.str x) b=true->V.str x=b) b (λh=>cz h) (λY h=>cz h) (λY h=>cz h) (λY h=>congrArg V.str (of_decide_eq_true h)) (λY h=>cz h) (λY h=>cz h) (λY h=>cz h))
  (λx ih b=>V.casesOn (motive_1:=λb=>V.beq (.tup x) b=true->V.tup x=b) b (λh=>cz h) (λY h=>cz h) (λY h=>cz h) (λY h=>cz h) (λl h=>congrArg V.tup (ih l h)) (λY h=>cz h) (λY h=>cz h))
  (λx b=>V.casesOn (motive_1:=λb=>V.beq (.ab x) b=true->V.ab x=b) b (λh=>cz h) (λY h=>cz h) (λY h=>cz h) (λY h=>cz h) (λY h=>cz h) (λY h=>congrArg V.ab (v9 h)) (λY h=>cz h))
  (λx b=>V.casesOn (motive_1:=λb=>V.beq (.cY x) b=true->V.cY x=b) b (λh=>cz h) (λY h=>cz h) (λY h=>cz h) (λY h=>cz h) (λY h=>cz h) (λY h=>cz h) (λY h=>congrArg V.cY (v9 h)))
  (λb=>CT (motive:=λb=>V.nU [] b=true->[]=b) b (λY=>rfl) (λY Y h=>cz h))
  (λx r ix ir b=>CT (motive:=λb=>V.nU (x::r) b=true->x::r=b) b (λh=>cz h) (λy t h=>(lQ.mp h).elim λh1 h2=>(ix y h1)▸(ir t h2)▸rfl)) a b
def V.beq_refl(a:V):V.beq a a=true:= @V.rec (λa=>V.beq a a=true) (λa=>V.nU a a=true) rfl (λb=>beq_self_eq_true b) (λY=>decide_eq_true rfl) (λY=>decide_eq_true rfl) (λY ih=>ih) (λn=>zf n) (λn=>zf n) rfl (λY Y h1 h2=>lQ.mpr ⟨h1,h2⟩) a
def V.beq_iff{b:V}:V.beq a b=true<->a=b:=⟨V.beq_eq,λe=>e▸V.beq_refl a⟩
abbrev zg:DecidableEq V:=λa b=>decidable_of_iff _ V.beq_iff
def V.beq_false{b:V}:V.beq a b=false<->a≠b:=by
 constructor
 .intro h e;rw[V.beq_iff.mpr e]at h;cases h
 .intro h;cases e:V.beq a b with
  |false=>rfl
  |true=>exact absurd (V.beq_eq e) h
abbrev uc(f:V->V->Option Bool)(xs ys:List V)(j:Nat):Bool:=((xs[j]?).bind λx=>(ys[j]?).bind λy=>f x y).getD true
def both_some{o p:Option Bool}(h:both o p=some r):∃x y,o=some x/\p=some y/\(x && y)=r:=by
 cases o with
 |none=>exact noNS h
 |some x=>cases p with
  |none=>exact noNS h
  |some y=>exact⟨x,y,rfl,rfl,bF h⟩
def RG(xs:List V):∀{ys:List V} {r:Bool},gn f xs ys=some r->xs.length=ys.length->(∀(j:Nat) (x y:V),xs[j]? =some x->ys[j]? =some y->∃b,f x y=some b)/\r=(f' xs.length).all (uc f xs ys):=by
 induction xs with
 |nil=>exact λh Y=>⟨λj x y e=>noNS e,(bF h).symm⟩
 |cons a xs ih=>
  intro ys r h hl;cases ys with
  |nil=>exact nomatch hl
  |cons b ys=>
   obtain⟨x,y,e1,e2,h⟩:=both_some h;obtain⟨i1,i2⟩:=ih e2 (iS hl);refine⟨λj p q hp hq=> ?_, ?_⟩
   .cases j with
    |zero=>exact⟨x,bF hp▸bF hq▸e1⟩
    |succ j=>exact i1 j p q hp hq
   .rw[mO,RH,wa,RI,<-h,i2];exact congrArg (λz:Bool=>z && (f' xs.length).all (uc f xs ys)) (show x=(f a b).getD true by rw[e1];rfl)
def Ir(hf:∀x r,f x x=some r->r=true)(xs:List V):∀{r:Bool},gn f xs xs=some r->r=true:=by
 induction xs with
 |nil=>exact λh=>(bF h).symm
 |cons a xs ih=>
  intro r h;obtain⟨x,y,e1,e2,h⟩:=both_some h;rw[<-h,hf _ _ e1,ih e2];rfl
def ud(h:eqB x x=some r):r=true:=V.casesOn (motive_1:=λx=>eqB x x=some r->r=true) x (λh=>(bF h).symm) (λb h=>(bF h).symm.trans (beq_self_eq_true b)) (λY h=>(bF h).symm.trans (decide_eq_true rfl)) (λY h=>(bF h).symm.trans (decide_eq_true rfl)) (λY h=>noNS h) (λY h=>noNS h) (λY h=>noNS h) h
def RJ{kvs:List (V×V)}(nd:fe kvs):∀{p:V×V},p∈kvs->bL kvs p.1=some p.2:=by
 induction kvs with
 |nil=>exact λh=>(lR h).elim
 |cons q r ih=>
  intro p h;rcases bU.mp h with e|h
  .rw[e];exact if_pos (V.beq_refl _)
  .exact(if_neg λe=>V.beq_false.mp (nd.1 p h) (V.beq_eq e).symm).trans (ih nd.2 h)
def RK(hf:∀x r,f x x=some r->r=true){all:List (V×V)}(nd:fe all)(xs:List (V×V)):∀{r:Bool},(∀p∈xs,p∈all)->mG f all xs=some r->r=true:=by
 induction xs with
 |nil=>exact λY h=>(bF h).symm
 |cons p xs ih=>
  intro r hs h;have h:(match bL all p.1 with|none=>some false|some y=>both (f p.2 y) (mG f all xs))=some r:=h;rw[RJ nd (hs p (.head _))]at h;obtain⟨x,y,e1,e2,h⟩:=both_some h;rw[<-h,hf _ _ e1,ih (λq hq=>hs q (.tail _ hq)) e2];rfl
section
variable{st:ah}
def ar.nodup(S:ar F μ st s){kvs:List (V×V)}(h:st[l]? =some (.dict kvs ep)):fe kvs:=RL (It (S.obj l _ h)) λY h=>h.elim λY h=>h.2.2.1
def zh{c:Prop} [Decidable c] {x:Option α}{r:α}(h:(if c then x else none)=some r):c/\x=some r:=by
 by_cases q:c
 .exact⟨q,(if_pos q).symm.trans h⟩
 .exact noNS ((if_neg q).symm.trans h)
def Iu{c:Prop} [Decidable c] {x:Option α}{a r:α}(h:(if c then x else some a)=some r)(k1:c->x=some r->C)(k2:¬c->a=r->C):C:=by
 by_cases q:c
 .exact k1 q ((if_pos q).symm.trans h)
 .exact k2 q (bF ((if_neg q).symm.trans h))
abbrev r9(f:V->V->Option Bool)(r:Bool)(x y:Option O):Prop:=(∃xs ys,x=some (.list xs)/\y=some (.list ys)/\(if xs.length=ys.length then gn f xs ys else some false)=some r)\/∃xs e ys e',x=some (.dict xs e)/\y=some (.dict ys e')/\(if xs.all (λp=>p.1.isInt) && ys.all (λp=>p.1.isInt)then(if xs.length=ys.length then mG f ys xs else some false)else none)=some r
def RM{x y:Option O}(h:iQ f x y=some r):r9 f r x y:=
 zc (motive:=λx=>iQ f x y=some r->r9 f r x y) x (λh=>noNS h) (λo=>O.casesOn (motive:=λo=>iQ f (some o) y=some r->r9 f r (some o) y) o
  (λxs=>zc (motive:=λy=>iQ f (some (.list xs)) y=some r->r9 f r (some (.list xs)) y) y (λh=>noNS h) (λp=>O.casesOn (motive:=λp=>iQ f (some (.list xs)) (some p)=some r->r9 f r (some (.list xs)) (some p)) p (λys h=>.inl ⟨xs,ys,rfl,rfl,h⟩) (λY Y h=>noNS h) (λY Y h=>noNS h)))
  (λxs e=>zc (motive:=λy=>iQ f (some (.dict xs e)) y=some r->r9 f r (some (.dict xs e)) y) y (λh=>noNS h) (λp=>O.casesOn (motive:=λp=>iQ f (some (.dict xs e)) (some p)=some r->r9 f r (some (.dict xs e)) (some p)) p (λY h=>noNS h) (λys e' h=>.inr ⟨xs,e,ys,e',rfl,rfl,h⟩) (λY Y h=>noNS h)))
  (λY Y h=>noNS h)) h
def Iv{x y:Option O}(h:iQ f x y=some r)(kl:∀xs ys,x=some (.list xs)->y=some (.list ys)->(if xs.length=ys.length then gn f xs ys else some false)=some r->C)
 (kd:∀xs e ys e',x=some (.dict xs e)->y=some (.dict ys e')->xs.all (λp=>p.1.isInt)=true->ys.all (λp=>p.1.isInt)=true->(if xs.length=ys.length then mG f ys xs else some false)=some r->C):C:=(RM h).elim (λq=>oe2_3 q kl) λq=>oe4_3 q λxs e ys e' e1 e2 h=>(zh h).elim λh1 h2=>(lQ.mp h1).elim λa b=>kd xs e ys e' e1 e2 a b h2
def RN(S:ar F μ st s)(n:Nat):∀{x:V} {r:Bool},bZ n st x x=some r->r=true:=by
 induction n with
 |zero=>exact λh=>ud h
 |succ n ih=>
  intro x r h;refine V.casesOn (motive_1:=λx=>bZ (n+1) st x x=some r->r=true) x (λh=>ud (x:=.none) h) (λb h=>ud (x:=.bool b) h) (λb h=>ud (x:=.int b) h) (λb h=>ud (x:=.str b) h) (λxs h=>Ir (λx r=>ih) xs (zh h).2) (λk h=> ?_) (λi h=>ud (x:=.cY i) h) h;refine Iv h (λxs ys e1 e2 h=> ?_) λxs e ys e' e1 e2 h1 h2 h=> ?_
  .rw[<-O.list.inj (bF (e1.symm.trans e2)),if_pos rfl]at h;exact Ir (λx r=>ih) xs h
  .rw[<-(O.dict.inj (bF (e1.symm.trans e2))).1,if_pos rfl]at h;exact RK (λx r=>ih) (S.nodup e1) xs (λY q=>q) h
def OR.out{h:Heap}{a:Addr}(x:OR F ρ N h l a o):ρ l=a\/∃c fs,o= .inst c fs/\h.get? (ρ l)=some (instObj (F.ca c) a):=O.casesOn (motive:=λo=>OR F ρ N h l a o->ρ l=a\/∃c fs,o= .inst c fs/\h.get? (ρ l)=some (instObj (F.ca c) a)) o (λY x=>.inl x.1) (λY Y x=>.inl x.1) (λc fs x=>RL x λY x=>x.elim λY x=>.inr ⟨c,fs,rfl,x.1⟩) x
def ar.RO(S:ar F μ st s){l':Nat}(h:l<st.length)(h':l'<st.length)(e:μ.ρ l=μ.ρ l'):l=l':=by
 have ex:=dS h;have ey:=dS h';rcases(S.obj l st[l] ex).out with x|⟨c,fs,x,g⟩
 .rcases(S.obj l' st[l'] ey).out with y|⟨c,fs,y,g⟩
  .exact S.inj l l' h h' (x.symm.trans (e.trans y))
  .exact absurd (e.symm.trans x) (S.yZ (ey.trans (congrArg some y)) h)
 .rcases(S.obj l' st[l'] ey).out with y|⟨c',fs',y,g'⟩
  .exact absurd (e.trans y) (S.yZ (ex.trans (congrArg some x)) h')
  .rw[e,g']at g;injection g with g
   injection g with _ g
   exact(S.inj l' l h' h (bF g)).symm
end
def Iw{h:Heap}{a:Addr}{x y:Array ai}(p:h.IsTuple a x)(q:h.IsTuple a y):x=y:=p.elim λY p=>q.elim λY q=>p.2.2.elim λY hd=>q.2.2.elim λY qY=>(Data.seq.inj (hd.symm.trans ((congrArg Obj.data (bF (p.1.symm.trans q.1))).trans qY))).1
section
variable{st:ah}
def ar.value(S:ar F μ st s)(hl:l<st.length):∃o,s.heap.get? (μ.ρ l)=some o/\o.cls≠.type "tuple"/\o.cls≠.type "range":=by
 have x:=S.obj l st[l] (dS hl);cases e:st[l]with
 |list xs=>rw[e]at x;obtain⟨q,vs,n,g,_⟩:=x;exact⟨_,q▸g,(λh=>absurd (pq h) (by decide)),(λh=>absurd (pq h) (by decide))⟩
 |dict kvs ep=>rw[e]at x;obtain⟨q,es,n,g,_⟩:=x;exact⟨_,q▸g,(λh=>absurd (pq h) (by decide)),(λh=>absurd (pq h) (by decide))⟩
 |inst c fs=>rw[e]at x;obtain⟨es,n,g,_⟩:=x;exact⟨_,g,(λh=>nomatch h),(λh=>nomatch h)⟩
def ar.Iy(S:ar F μ st s)(hl:l<st.length)(h:s.heap.IsTuple (μ.ρ l) items):False:=by
 obtain⟨o,g,hc,_⟩:=S.value hl;obtain⟨o',g',jk,_⟩:=h;rw[g]at g';cases g';exact hc jk
def ar.Iz(S:ar F μ st s){t u v:Tok}(hl:l<st.length)(h:IsRange s.heap (μ.ρ l) 0 n 1 t u v):False:=by
 obtain⟨o,g,_,hc⟩:=S.value hl;cases(g.symm.trans h);exact hc rfl
def IA{h:Heap}{a:Addr}{t u v:Tok}(x:h.IsTuple a items)(y:IsRange h a 0 n 1 t u v):False:=by
 obtain⟨o,g,hc,_⟩:=x;cases(g.symm.trans y);exact absurd (pq hc) (by decide)
def VR.zi{h:Heap}{a:Addr}(r:VR ρ N h x (.ref a))(kt:∀l vs,x= .tup l->h.IsTuple a (gG vs)->aJ ρ N h l vs->C)(kl:∀n,x= .ab n->a=ρ n->n<N->C)
 (kr:∀(n:Nat) t u v,x= .cY n->IsRange h a 0 n 1 t u v->C):C:=
 have key:(∃l vs,x= .tup l/\h.IsTuple a (gG vs)/\aJ ρ N h l vs)\/(∃n,x= .ab n/\a=ρ n/\n<N)\/∃(n:Nat) (t u v:Tok),x= .cY n/\IsRange h a 0 n 1 t u v:=
  VR.casesOn (motive_1:=λx w Y=>w= .ref a->(∃l vs,x= .tup l/\h.IsTuple a (gG vs)/\aJ ρ N h l vs)\/(∃n,x= .ab n/\a=ρ n/\n<N)\/∃(n:Nat) (t u v:Tok),x= .cY n/\IsRange h a 0 n 1 t u v) r (λe=>nomatch e) (λY e=>nomatch e) (λY Y e=>nomatch e) (λY Y e=>nomatch e)
   (λ{l _ vs} ht hs e=>.inl ⟨l,vs,rfl,zj e▸ht,hs⟩) (λ{n} hn e=>.inr (.inl ⟨n,rfl,(zj e).symm,hn⟩)) (λ{n _ t u v} hc hr e=>.inr (.inr ⟨n,t,u,v,rfl,zj e▸hr⟩)) rfl
 key.elim (λq=>oe2_3 q kt) λk=>k.elim (λq=>oe1_3 q kl) λq=>oe4_2 q kr
def VR.qZ{h:Heap}{u:ai}(r:VR ρ N h x u):match u with|.none=>x= .none|.bool b=>x= .bool b|.int i _=>x= .int i|.str i _=>x= .str i|_=>True:=VR.casesOn r rfl (λY=>rfl) (λY Y=>rfl) (λY Y=>rfl) (λY Y=>trivial) (λY=>trivial) (λY Y=>trivial)
def VR.inj(S:ar F μ st s){y:V}{v:ai}(p:VR μ.ρ st.length s.heap x v):VR μ.ρ st.length s.heap y v->x=y:=by
 refine VR.rec (motive_1:=λx v Y=>∀y,VR μ.ρ st.length s.heap y v->x=y) (motive_2:=λx v Y=>∀y,aJ μ.ρ st.length s.heap y v->x=y) (λy q=>q.qZ.symm) (λb y q=>q.qZ.symm) (λb t y q=>q.qZ.symm) (λb t y q=>q.qZ.symm) ?_ ?_ ?_ ?_ ?_ p y
 .intro l a vs ht hs ih y q;refine q.zi (λl' lN e dW ff=> ?_) (λn e ea hn=>(S.Iy hn (ea▸ht)).elim) λn t u v e hr=>(IA ht hr).elim;have e2:vs=lN:=congrArg RP (Iw ht dW);rw[e,ih l' (e2▸ff)]
 .intro n hn y q;exact q.zi (λl' lN e dW ff=>(S.Iy hn dW).elim) (λn' e ea q9=>by rw[e,S.RO hn q9 ea]) λn' t u v e hr=>(S.Iz hn hr).elim
 .intro n a t u v hc hr y q;refine q.zi (λl' lN e dW ff=>(IA dW hr).elim) (λn' e ea q9=>(S.Iz q9 (ea▸hr)).elim) λn' t' u' v' e vZ=> ?_;have h1:=hr.symm.trans vZ;injection h1 with h1
  injection h1 with _ _ h1
  injection h1 with h1
  have h2:=congrArg (λx:Array ai=>x.toList) h1;simp at h2;rw[e,show n=n' from rb h2.2.1.1]
 .intro y q;cases q;rfl
 .intro v u l us _ _ i1 i2 y q;cases q with|cons a b=>rw[i1 _ a,i2 _ b]
end
end
variable{Z:ai→ai→Bool→Prop}{j i:Nat}{p':eH}{w':bQ}{q:Addr}{e':Option Nat}
section
variable{a b:V}{v:ai}{vs us:List ai}{ys:List V}{i:Int}{es:List dc}{kvs:List (V×V)}{ks:List (Int×ai)}
section
variable{st:ah}
def zk(a b:Str):(a==b)=decide (a=b):=by
 by_cases h:a=b
 .subst h;simp
 .rfl
def RQ{Z:V->V->Bool->Prop}(nn:Z .none .none true)(bb:∀p q,Z (.bool p) (.bool q) (p==q))(ii:∀p q,Z (.int p) (.int q) (decide (p=q)))(ss:∀p q,Z (.str p) (.str q) (decide (p=q)))
 (ni:∀i,Z .none (.int i) false) (CU:∀i,Z (.int i) .none false) (is:∀i q,Z (.int i) (.str q) false) (si:∀p i,Z (.str p) (.int i) false) (h:eqB a b=some r):Z a b r:=by
 have k:∀a b,eqB a b=none\/∃r,eqB a b=some r/\Z a b r:=λa b=>by
  cases a
  case none=>cases b<;>first|exact .inl rfl|exact .inr ⟨_,rfl,nn⟩|exact .inr ⟨_,rfl,ni _⟩
  case bool=>cases b<;>first|exact .inl rfl|exact .inr ⟨_,rfl,bb _ _⟩
  case int=>cases b<;>first|exact .inl rfl|exact .inr ⟨_,rfl,CU _⟩|exact .inr ⟨_,rfl,ii _ _⟩|exact .inr ⟨_,rfl,is _ _⟩
  case str=>cases b<;>first|exact .inl rfl|exact .inr ⟨_,rfl,ss _ _⟩|exact .inr ⟨_,rfl,si _ _⟩
  all_goals exact .inl rfl
 rcases k a b with e|⟨r',e,z⟩
 .exact noNS (e.symm.trans h)
 .rw[<-bF (e.symm.trans h)];exact z
def CV{Z:ai->ai->Bool->Prop}(nn:Z .none .none true)(bb:∀p q,Z (.bool p) (.bool q) (p==q))(ii:∀p t q u,Z (.int p t) (.int q u) (decide (p=q)))(ss:∀p t q u,Z (.str p t) (.str q u) (p==q))
 (ni:∀i t,Z .none (.int i t) false) (CU:∀i t,Z (.int i t) .none false) (is:∀i t q u,Z (.int i t) (.str q u) false) (si:∀p t i u,Z (.str p t) (.int i u) false)
 (h:eqB a b=some r) (x:VR ρ N s.heap a u) (y:VR ρ N s.heap b v):Z u v r:=
 RQ (Z:=λa b r=>∀{u v},VR ρ N s.heap a u->VR ρ N s.heap b v->Z u v r) (λx y=>x.out▸y.out▸nn) (λp q Y Y x y=>x.out▸y.out▸bb p q) (λp q Y Y x y=>x.out.elim λt e=>y.out.elim λt' e'=>e▸e'▸ii p t q t')
  (λp q Y Y x y=>x.out.elim λt e=>y.out.elim λt' e'=>e▸e'▸zk p q▸ss p t q t') (λp Y Y x y=>y.out.elim λt e=>x.out▸e▸ni p t) (λp Y Y x y=>x.out.elim λt e=>y.out▸e▸CU p t) (λp q Y Y x y=>x.out.elim λt e=>y.out.elim λt' e'=>e▸e'▸is p t q t')
  (λp q Y Y x y=>x.out.elim λt e=>y.out.elim λt' e'=>e▸e'▸si p t q t') h x y
def IB(h:eqB a b=some r)(x:VR ρ N s.heap a u)(y:VR ρ N s.heap b v):RcAt A s u v r:=CV (Z:=RcAt A s) RcAt.none_none RcAt.bool_bool RcAt.int_int RcAt.str_str RcAt.none_int RcAt.int_none RcAt.int_str RcAt.str_int h x y
def IC(h:eqB a b=some r)(x:VR ρ N s.heap a u)(y:VR ρ N s.heap b v):EqAt A s u v r:=CV (Z:=EqAt A s) (ID _) EqAt.bool_bool CW IE EqAt.none_int EqAt.int_none IF IG h x y
def IH(h:eqB a b=some r)(x:VR ρ N s.heap a u)(y:VR ρ N s.heap b v):RcNeAt A s u v (!r):=CV (Z:=λu v r=>RcNeAt A s u v (!r)) RcNeAt.none_none RcNeAt.bool_bool RcNeAt.int_int RcNeAt.str_str RcNeAt.none_int RcNeAt.int_none RcNeAt.int_str RcNeAt.str_int h x y
def aJ.zm{h:Heap}{l:List V}(r:aJ ρ N h l vs)(hj:j<vs.toArray.size):∃v,l[j]? =some v/\VR ρ N h v vs.toArray[j]:=by
 have iw:j<l.length:=by simpa[r.length]using hj
 obtain⟨u,h1,h2⟩:=r.get (dS iw);refine⟨_,dS iw, ?_⟩;have:vs.toArray[j]=u:=by
  have h3:vs[j]? =some vs.toArray[j]:=by simp
  rw[h1]at h3;exact(bF h3).symm
 rw[this];exact h2
def II{xs:List V}(h:gn f xs ys=some r)(hl:xs.length=ys.length)
 (hf:∀{a b:V} {r:Bool} {u v:ai},f a b=some r->VR ρ N s.heap a u->VR ρ N s.heap b v->EqAt A s u v r) (x:aJ ρ N s.heap xs us) (y:aJ ρ N s.heap ys vs):
 (∀j (h1:j<us.toArray.size) (h2:j<vs.toArray.size),EqAt A s us.toArray[j] vs.toArray[j] (uc f xs ys j))/\r=(f' us.toArray.size).all (uc f xs ys):=by
 obtain⟨i1,i2⟩:=RG _ h hl;refine⟨λj h1 h2=> ?_,by rw[i2];simp[x.length]⟩;obtain⟨p,hp,rp⟩:=x.zm h1;obtain⟨q,hq,rq⟩:=y.zm h2;obtain⟨b,hb⟩:=i1 j p q hp hq;have:uc f xs ys j=b:=by simp[uc,hp,hq,hb]
 rw[this];exact hf hb rp rq
def RR{v:V}{r:List (V×V)}:bL ((.int i,v)::r) (.int i)=some v:=if_pos (decide_eq_true rfl)
def RS{j:Int}{v:V}{r:List (V×V)}(h:¬i=j):bL ((.int i,v)::r) (.int j)=bL r (.int j):=if_neg λe=>h (of_decide_eq_true e)
def RT{r:List (Int×ai)}:valueAt ((i,u)::r) i=some u:=by simp[valueAt]
def RU{j:Int}{r:List (Int×ai)}(h:¬i=j):valueAt ((i,u)::r) j=valueAt r j:=by simp[valueAt,h]
def IJ{v:V}(h:v.isInt=true):∃i,v= .int i:=by cases v<;>first|exact⟨_,rfl⟩|exact cu h
structure IK(prog:eH)(w:bQ)(ρ:Nat->Addr)(N:Nat)(h:Heap)(es:List dc)(kvs:List (V×V))(ks:List (Int×ai)):Prop where
 p:Pairs (cV prog w) es ks
 k:∀e∈es,∃k,(cV prog w).is k e.key=true/\e.hash=(cV prog w).hash k
 nd:(ks.map (·.1)).Nodup
 e:ks.map (λp=>V.int p.1)=kvs.map (·.1)
 at':∀i:Int,(∀v,bL kvs (.int i)=some v->∃u,valueAt ks i=some u/\VR ρ N h v u)/\(bL kvs (.int i)=none->valueAt ks i=none)
def ER.zo{h:Heap}(r:ER w ρ N h es kvs)(ek:kvs.all (λp=>p.1.isInt)=true)(nd:fe kvs):∃ks,IK F.prog w ρ N h es kvs ks:=by
 induction r with
 |nil=>exact⟨[],.nil,(λe he=>nomatch he),uf,rfl,λi=>⟨λv e=>(nomatch e),λY=>rfl⟩⟩
 | @cons k v key val es kvs a b r ih=>
  rw[wa,eO]at ek;refine(ih ek.2 nd.2).elim λks K=>(IJ ek.1).elim λi e=> ?_;clear ek;subst e;refine a.out.elim λt e=> ?_;subst e;refine⟨(i,val)::ks,.cons (decide_eq_true rfl) rfl K.p,λe he=> ?_,d0.mpr ⟨λhm=> ?_,K.nd⟩,congrArg (V.int i::·) K.e,λj=> ?_⟩
  .rcases bU.mp he with he|he
   .rw[he];exact⟨i,decide_eq_true rfl,rfl⟩
   .exact K.k e he
  .obtain⟨q,hq,e⟩:=d4.mp hm;have mP:V.int i∈kvs.map (·.1):=K.e▸d4.mpr ⟨q,hq,congrArg V.int e⟩;obtain⟨q',CX,e'⟩:=d4.mp mP;have:=nd.1 q' CX;rw[e']at this;exact cu ((V.beq_refl _).symm.trans this)
  .by_cases px:i=j
   .subst px;rw[RR,RT];exact⟨λw e=>⟨val,rfl,bF e▸b⟩,λe=>(nomatch e)⟩
   .rw[RS px,RU px];exact K.at' j
def ER.ints{h:Heap}(r:ER w ρ N h es kvs)(ek:kvs.all (λp=>p.1.isInt)=true)(nd:fe kvs):
 ∃ks:List (Int×ai),Pairs (cV F.prog w) es ks/\KeysOf (cV F.prog w) es.toArray/\(ks.map (·.1)).Nodup/\ks.map (λp=>V.int p.1)=kvs.map (·.1)/\∀i:Int,(∀v,bL kvs (.int i)=some v->∃u,valueAt ks i=some u/\VR ρ N h v u)/\(bL kvs (.int i)=none->valueAt ks i=none):=(r.zo ek nd).elim λks K=>⟨ks,K.p,(λe he=>K.k e (wb.mp he)),K.nd,K.e,K.at'⟩
structure Ok(F:Fix):Prop where
 KX:F.K.In F.h₀
 lim:F.h₀.NoLimit
 mods:∃o,F.h₀.get? lS=some o
 CY:∀c,dR c F.P.classes=true->hasDictIn F.K (F.ca c)=true
 plain:∀c,dR c F.P.classes=true->plainOver F.K (F.ca c)=true
 CZ:∀c,dR c F.P.classes=true->findIn F.K (.ref (F.ca c)) "__getattribute__"=some (some (.builtin "object.__getattribute__"))
 IL:∀c,dR c F.P.classes=true->findIn F.K (.ref (F.ca c)) "__getattr__"=some none
 IM:∀c,dR c F.P.classes=true->findIn F.K (.ref (F.ca c)) "__setattr__"=some (some (.builtin "object.__setattr__"))
 attr:∀c n,dR c F.P.classes=true->dR n F.P.attrs=true->findIn F.K (.ref (F.ca c)) n=some none
def Ok.pz(O:Ok F)(S:ar F μ st s)(hl:l<st.length):(μ.σ l==lS)=false:=by
 refine beq_eq_false_iff_ne.mpr λe=> ?_;have h1:=S.out l hl;obtain⟨o,ho⟩:=O.mods;rw[e,ho]at h1;cases h1
def fV(S:ar F μ st s){xs:List V}(h:st[l]? =some (.list xs)):∃vs,s.heap.IsList (μ.ρ l) (gG vs)/\aJ μ.ρ st.length s.heap xs vs/\μ.ρ l=μ.σ l:=
 have q:=S.obj l _ h
 q.2.imp λY h=>h.elim λn h=>⟨⟨_,q.1▸h.1,rfl,n,rfl⟩,h.2.1,q.1⟩
def lenOf(S:ar F μ st s){xs:List V}(h:st[l]? =some (.list xs)):xs.length<=bH:=(S.obj l _ h).2.elim λY h=>h.elim λY h=>h.2.2
def RV(S:ar F μ st s)(h:st[l]? =some (.dict kvs ep))(hk:kvs.all (λp=>p.1.isInt)=true):
 ∃ks:List (Int×ai),s.heap.DictOf (cV F.prog F.w) (μ.ρ l) ks/\ks.map (λp=>V.int p.1)=kvs.map (·.1)/\∀i:Int,(∀v,bL kvs (.int i)=some v->∃u,valueAt ks i=some u/\VR μ.ρ st.length s.heap v u)/\(bL kvs (.int i)=none->valueAt ks i=none):=by
 obtain⟨e,es,n,g,r,nd,_⟩:=S.obj l _ h;obtain⟨ks,h1,h2,h3,h4,h5⟩:=r.ints (F:=F) hk nd;exact⟨ks,⟨_,_,n,e▸g,⟨rfl,rfl,rfl⟩,rfl,h2,by simpa using h1,h3⟩,h4,h5⟩
def RW{kb:List (Int×ai)}{ys:List (V×V)}
 (hb:∀i:Int,(∀v,bL ys (.int i)=some v->∃u,valueAt kb i=some u/\VR ρ N s.heap v u)/\(bL ys (.int i)=none->valueAt kb i=none))
 (hf:∀{a b:V} {r:Bool} {u v:ai},f a b=some r->VR ρ N s.heap a u->VR ρ N s.heap b v->EqAt A s u v r):
 ∀{xs:List (V×V)} {ka:List (Int×ai)} {r:Bool},ka.map (λp=>V.int p.1)=xs.map (·.1)->(∀(j:Nat) (p:V×V) (q:Int×ai),xs[j]? =some p->ka[j]? =some q->VR ρ N s.heap p.2 q.2)->mG f ys xs=some r->KeqHits A s kb ka r:=by
 intro xs;induction xs with
 |nil=>
  intro ka r e _ h;cases ka with
  |nil=>cases h;exact .nil
  |cons=>cases e
 |cons p xs ih=>
  intro ka r e hv h;cases ka with
  |nil=>cases e
  |cons q ka=>
  obtain⟨i,w⟩:=q;obtain⟨e,e'⟩:=zp e;replace h:(match bL ys p.1 with|none=>some false|some y=>both (f p.2 y) (mG f ys xs))=some r:=h;rw[<-show V.int i=p.1 from e]at h;cases e1:bL ys (.int i)with
  |none=>rw[e1]at h;cases h;exact .miss ((hb i).2 e1)
  |some y=>
   rw[e1]at h;obtain⟨x,z,e2,e3,h⟩:=both_some h;subst h;obtain⟨u,hu,hr⟩:=(hb i).1 y e1;exact .hit hu (hf e2 (hv 0 p (i,w) rfl rfl) hr) (ih e' (λj p q a b=>hv (j+1) p q a b) e3)
def ER.at{h:Heap}(r:ER w ρ N h es kvs)(hp:Pairs (cV F.prog w) es ks)
 (j:Nat) (p:V×V) (q:Int×ai) (a:kvs[j]? =some p) (b:ks[j]? =some q):VR ρ N h p.2 q.2:=by
 induction r generalizing ks j with
 |nil=>cases a
 |cons x y r ih=>
  cases hp with
  |cons h1 h2 h3=>
   cases j with
   |zero=>rw[<-bF a,<-bF b,<-h2];exact y
   |succ j=>exact ih h3 j a b
def zr(S:ar F μ st s)(h:st[l]? =some (.dict kvs ep))(hk:kvs.all (λp=>p.1.isInt)=true):
 ∃ks:List (Int×ai),s.heap.DictOf (cV F.prog F.w) (μ.ρ l) ks/\ks.map (λp=>V.int p.1)=kvs.map (·.1)/\(∀(j:Nat) (p:V×V) (q:Int×ai),kvs[j]? =some p->ks[j]? =some q->VR μ.ρ st.length s.heap p.2 q.2)/\∀i:Int,(∀v,bL kvs (.int i)=some v->∃u,valueAt ks i=some u/\VR μ.ρ st.length s.heap v u)/\(bL kvs (.int i)=none->valueAt ks i=none):=by
 obtain⟨e,es,n,g,r,nd,_⟩:=S.obj l _ h;obtain⟨ks,h1,h2,h3,h4,h5⟩:=r.ints (F:=F) hk nd;exact⟨ks,⟨_,_,n,e▸g,⟨rfl,rfl,rfl⟩,rfl,h2,by simpa using h1,h3⟩,h4,r.at h1,h5⟩
def RX{p:eH}(r:Pairs (cV p w) es ks):Pairs (cV p' w') es ks:=by
 induction r with
 |nil=>exact .nil
 |cons a b _ ih=>exact .cons a b ih
def rd{p:eH}{h:Heap}{a:Addr}(r:h.DictOf (cV p w) a ks):h.DictOf (cV p' w') a ks:=r.elim λo r=>r.elim λes r=>r.elim λep r=>⟨o,es,ep,r.1,r.2.1,r.2.2.1,λe he=>r.2.2.2.1 e he,RX r.2.2.2.2.1,r.2.2.2.2.2⟩
def RY{a b:Addr}{ka kb:List (Int×ai)}{b':Bool}(ha:(a==lS)=false)(hb:(b==lS)=false)
 (da:s.heap.DictOf (cV prog w) a ka) (db:s.heap.DictOf (cV prog w) b kb) (hu:A.units<cLine) (hits:KeqHits A.in1 s kb ka r) (e:(ka.length==kb.length && r)=b'):RcAt A s (.ref a) (.ref b) b':=λp w' E Q hq=>by
 exact keq_eq (knd:=cV p w') ha hb (rd da) (rd db) hu (λY=>hits) (e▸hq)
def RZ{a b:Addr}{ka kb:List (Int×ai)}(ha:(a==lS)=false)(hb:(b==lS)=false)
 (da:s.heap.DictOf (cV prog w) a ka) (db:s.heap.DictOf (cV prog w) b kb) (hu:A.units<cLine) (e:ka.length≠kb.length):RcAt A s (.ref a) (.ref b) false:=λp w' E Q hq=>by
 refine keq_eq (knd:=cV p w') (r:=false) ha hb (rd da) (rd db) hu (λq=>absurd q e) ?_;rw[C1];exact hq
structure lT(F:Fix)(A:bB)(s:ao)(ρ:Nat->Addr)(N:Nat)(Z:ai->ai->Bool->Prop):Prop where
 kb:∀{a b r u v},eqB a b=some r->VR ρ N s.heap a u->VR ρ N s.heap b v->Z u v r
 kt:∀{p q:Addr} {us vs:List ai} {f:Nat->Bool},s.heap.IsTuple p us.toArray->s.heap.IsTuple q vs.toArray->vs.toArray.size=us.toArray.size->(∀j (h1:j<us.toArray.size) (h2:j<vs.toArray.size),EqAt A.in1 s us.toArray[j] vs.toArray[j] (f j))->Z (.ref p) (.ref q) ((f' us.toArray.size).all f)
 kl:∀{p q:Addr} {us vs:List ai} {f:Nat->Bool},s.heap.IsList p us.toArray->s.heap.IsList q vs.toArray->us.toArray.size=vs.toArray.size->(∀j (h1:j<us.toArray.size) (h2:j<vs.toArray.size),EqAt A.in1 s us.toArray[j] vs.toArray[j] (f j))->Z (.ref p) (.ref q) ((f' us.toArray.size).all f)
 zt:∀{p q:Addr} {us vs:List ai},s.heap.IsList p us.toArray->s.heap.IsList q vs.toArray->us.toArray.size≠vs.toArray.size->Z (.ref p) (.ref q) false
 kd:∀{p q:Addr} {ka kb:List (Int×ai)} {r:Bool},(p==lS)=false->(q==lS)=false->s.heap.DictOf (cV F.prog F.w) p ka->s.heap.DictOf (cV F.prog F.w) q kb->ka.length=kb.length->KeqHits A.in1 s kb ka r->Z (.ref p) (.ref q) r
 zu:∀{p q:Addr} {ka kb:List (Int×ai)},(p==lS)=false->(q==lS)=false->s.heap.DictOf (cV F.prog F.w) p ka->s.heap.DictOf (cV F.prog F.w) q kb->ka.length≠kb.length->Z (.ref p) (.ref q) false
def R3(K:lT F A s ρ N Z)(ih:∀{a b:V} {r:Bool} {u v:ai},f a b=some r->VR ρ N s.heap a u->VR ρ N s.heap b v->EqAt A.in1 s u v r){xs:List V}(h:gn f xs ys=some r)(hl:xs.length=ys.length)
 (ht:s.heap.IsTuple p us.toArray) (dW:s.heap.IsTuple q vs.toArray) (x:aJ ρ N s.heap xs us) (y:aJ ρ N s.heap ys vs):Z (.ref p) (.ref q) r:=by
 obtain⟨he,e⟩:=II h hl ih x y;rw[e];exact K.kt ht dW (y.length.trans (hl.symm.trans x.length.symm)) he
def R4(S:ar F μ st s)(K:lT F A s μ.ρ st.length Z)(ih:∀{a b:V} {r:Bool} {u v:ai},f a b=some r->VR μ.ρ st.length s.heap a u->VR μ.ρ st.length s.heap b v->EqAt A.in1 s u v r){xs:List V}
 (h:(if xs.length=ys.length then gn f xs ys else some false)=some r) (e1:st[k]? =some (.list xs)) (e2:st[l]? =some (.list ys)):Z (.ref (μ.ρ k)) (.ref (μ.ρ l)) r:=by
 obtain⟨vs,L1,r1,_⟩:=fV S e1;obtain⟨ws,L2,r2,_⟩:=fV S e2;refine Iu h (λhl h=> ?_) λhl h=> ?_
 .obtain⟨he,e⟩:=II h hl ih r1 r2;rw[e];exact K.kl L1 L2 (r1.length.trans (hl.trans r2.length.symm)) he
 .exact h▸K.zt L1 L2 (by rw[eI,eI,r1.length,r2.length];exact hl)
def R5(O:Ok F)(S:ar F μ st s)(K:lT F A s μ.ρ st.length Z)(ih:∀{a b:V} {r:Bool} {u v:ai},f a b=some r->VR μ.ρ st.length s.heap a u->VR μ.ρ st.length s.heap b v->EqAt A.in1 s u v r){xs ys:List (V×V)}{e:Option Nat}
 (h:(if xs.length=ys.length then mG f ys xs else some false)=some r) (q1:st[k]? =some (.dict xs e)) (q2:st[l]? =some (.dict ys e')) (h1:xs.all (λp=>p.1.isInt)=true) (h2:ys.all (λp=>p.1.isInt)=true):Z (.ref (μ.ρ k)) (.ref (μ.ρ l)) r:=by
 obtain⟨ka,D1,m1,v1,_⟩:=zr S q1 h1;obtain⟨kb,D2,m2,_,b2⟩:=zr S q2 h2;have l1:ka.length=xs.length:=by have:=congrArg n7 m1;rwa [aP,aP]at this
 have l2:kb.length=ys.length:=by have:=congrArg n7 m2;rwa [aP,aP]at this
 have C2:=O.pz S (b9.mp q1).1;have C3:=O.pz S (b9.mp q2).1;rw[<-(S.obj _ _ q1).1]at C2;rw[<-(S.obj _ _ q2).1]at C3;refine Iu h (λhl h=> ?_) λhl h=> ?_
 .exact K.kd C2 C3 D1 D2 (by rw[l1,l2,hl]) (RW (A:=A.in1) b2 ih m1 v1 h)
 .exact h▸K.zu C2 C3 D1 D2 (by rw[l1,l2];exact hl)
def C4(O:Ok F)(S:ar F μ st s)(n:Nat)(K:lT F A s μ.ρ st.length Z)(ih:∀{a b:V} {r:Bool} {u v:ai},bZ n st a b=some r->VR μ.ρ st.length s.heap a u->VR μ.ρ st.length s.heap b v->EqAt A.in1 s u v r)
 (h:bZ (n+1) st a b=some r) (x:VR μ.ρ st.length s.heap a u) (y:VR μ.ρ st.length s.heap b v):Z u v r:=by
 cases x with
 |tup ht hs=>
  cases y with
  |tup dW ff=>exact R3 K ih (zh h).2 (zh h).1 ht dW hs ff
  |_=>exact noNS h
 |ab hn=>
  cases y with
  |ab hm=>exact Iv h (λxs ys e1 e2 h=>R4 S K ih h e1 e2) λxs e ys e' e1 e2 h1 h2 h=>R5 O S K ih h e1 e2 h1 h2
  |_=>exact noNS h
 |cY hc hr=>exact noNS h
 |none=>exact K.kb (show eqB V.none b=some r from h) .none y
 |bool c=>exact K.kb (show eqB (V.bool c) b=some r from h) (.bool c) y
 |int c t=>exact K.kb (show eqB (V.int c) b=some r from h) (.int c t) y
 |str c t=>exact K.kb (show eqB (V.str c) b=some r from h) (.str c t) y
def R6{f:Nat->Bool}(hu:A.units<cLine)(ht:s.heap.IsTuple p us.toArray)(dW:s.heap.IsTuple q vs.toArray)(e:vs.toArray.size=us.toArray.size)(he:∀j (h1:j<us.toArray.size) (h2:j<vs.toArray.size),EqAt A.in1 s us.toArray[j] vs.toArray[j] (f j)):
 RcAt A s (.ref p) (.ref q) ((f' us.toArray.size).all f):=by
 have:=RcAt.tuples ht dW hu he;rw[e,Nat.min_self,beq_self_eq_true,C5]at this;exact this
def lT.rc(hu:A.units<cLine):lT F A s ρ N (RcAt A s) where
 kb h x y:=IB h x y
 kt ht dW e he:=R6 hu ht dW e he
 kl ht dW e he:=RcAt.lists ht dW e hu he
 zt ht dW e:=RcAt.lists_lengths ht dW (bne_iff_ne.mpr e) hu
 kd n1 n2 d1 d2 e hits:=RY n1 n2 d1 d2 hu hits (by rw[e,beq_self_eq_true,Bool.true_and])
 zu n1 n2 d1 d2 e:=RZ n1 n2 d1 d2 hu e
abbrev zv(A:bB)(s:ao)(u v:ai)(r:Bool):Prop:=(u=v->r=true)->EqAt A s u v r
def zv.ref(h:RcAt A s (.ref p) (.ref q) r):zv A s (.ref p) (.ref q) r:=λk=>by
 by_cases e:p=q
 .subst e;rw[k rfl];exact ID _
 .exact .of_refs e h
def lT.at{ρ:Nat->Addr}{N:Nat}(hu:A.units<cLine):lT F A s ρ N (zv A s):=
 let K:=lT.rc (F:=F) (ρ:=ρ) (N:=N) hu
 ⟨λh x y Y=>IC h x y,λa b c d=>.ref (K.kt a b c d),λa b c d=>.ref (K.kl a b c d),λa b c=>.ref (K.zt a b c),λa b c d e f=>.ref (K.kd a b c d e f),λa b c d e=>.ref (K.zu a b c d e)⟩
def C6(O:Ok F)(S:ar F μ st s):∀(n:Nat) {A:bB} {a b:V} {r:Bool} {u v:ai},A.units+n<cLine->bZ n st a b=some r->VR μ.ρ st.length s.heap a u->VR μ.ρ st.length s.heap b v->EqAt A s u v r:=by
 intro n;induction n with
 |zero=>exact λY h x y=>IC h x y
 |succ n ih=>
  intro A a b r u v hu h x y;exact C4 (Z:=zv A s) O S n (lT.at (iT (pA _ _) hu)) (λh x y=>ih (by(exact bq (.add (.add az ak) aX) av [.l (.add (.add af aK) aX) av] rfl hu)) h x y) h x y
   λe=>by subst e;have e:=VR.inj S x y;subst e;exact RN S _ h
end
end
variable{k:V}{Q:ai→ao→Prop}{t:Tok}{ob:Obj}
section
def iU:bH<=sizeLine:=by decide
def wc(h:n<=bH):(n:Int)<2 ^ 63:=by exact ug (sa.mpr h) (by decide)
structure cy(A:bB)(n:Nat):Prop where
 handled:A.handled=none
 depth:A.depth+n<900
 units:A.units+10*n+200<cLine
def cy.mono{A:bB}{m:Nat}(R:cy A n)(h:m<=n):cy A m:=⟨R.handled,iT (wd h _) R.depth,iT (HX (wd (IP 10 h) _) 200) R.units⟩
variable{t:Nat}{vs:List ai}{a:V}{w:ai}
section
variable{st:ah}
abbrev aR(F:Fix)(μ:Mp)(st:ah)(s:ao)(U:ah)(v:V)(Q:ai->ao->Prop):Prop:=∀aI s' u,ar F aI U s'->Step cq μ st.length s.heap aI U.length s'.heap->VR aI.ρ U.length s'.heap v u->Q u s'
abbrev gu(F:Fix)(μ:Mp)(st:ah)(s:ao)(U:ah)(Q:ao->Prop):Prop:=∀aI s',ar F aI U s'->Step cq μ st.length s.heap aI U.length s'.heap->Q s'
def aR.keeps(P:aR F μ st s st v Q)(S:ar F μ st s)(k:∀b o,s.heap.get? b=some o->s'.heap.get? b=some o)(hg:s'.gens=s.gens)(ho:s'.os=s.os)
 (x:VR μ.ρ st.length s'.heap v u):Q u s':=P μ s' u (S.keeps k hg ho) (Step.of_keeps k) x
def aR.tok(P:aR F μ st s st v Q)(S:ar F μ st s)(x:VR μ.ρ st.length s.heap v u):Q u {s with toks:=t}:=P.keeps (s':={s with toks:=t}) S (λY Y e=>e) rfl rfl x
def aR.push{o:O}(P:aR F μ st s (st++[o]) (.ab st.length) Q)(S:ar F μ st s)(C7:ob.isFreed=false)
 (x:∀h',h'.get? s.heap.objs.size=some ob->cM s.heap h'->OR F (μ.put st.length s.heap.objs.size s.heap.objs.size).ρ (st.length+1) h' st.length s.heap.objs.size o):
 Q (.ref s.heap.objs.size) {s with heap:=s.heap.push ob,toks:=t}:=by
 have k:∀b o',s.heap.get? b=some o'->(s.heap.push ob).get? b=some o':=λb o' e=>cS _ e;obtain⟨S',T'⟩:=S.alloc (s':={s with heap:=s.heap.push ob,toks:=t}) (r:=s.heap.objs.size) (a:=s.heap.objs.size) (o:=o) k rfl rfl
  (ui (bG _)) (x _ (dX _ C7) (cM.of_keeps k))
 refine P _ _ _ S' T' ?_;have:VR (μ.put st.length s.heap.objs.size s.heap.objs.size).ρ (st++[o]).length (s.heap.push ob) (.ab st.length) (.ref ((μ.put st.length s.heap.objs.size s.heap.objs.size).ρ st.length)):=.ab (by simp);simpa[Mp.put]using this
def OR.zw{xs:List V}{h:Heap}{a:Addr}(hv:aJ μ.ρ st.length h xs vs)(g:h'.get? a=some (listOf (gG vs) n))(im:cM h h')(c:xs.length<=bH):
 OR F (μ.put st.length a a).ρ (st.length+1) h' st.length a (.list xs):=⟨if_pos rfl,vs,n,g,hv.mono (λn hn=>Mp.t8 hn) (mM _) im,c⟩
def aR.list{xs:List V}(h:cg xs st=some (v,U))(P:aR F μ st s U v Q)(S:ar F μ st s)(hv:aJ μ.ρ st.length s.heap xs vs):
 Q (.ref s.heap.objs.size) {s with heap:=s.heap.push {cls:=.type "list",data:=.seq vs.toArray},toks:=t}:=by
 obtain⟨c,rfl,rfl⟩:=newL_some h;exact P.push (ob:=listOf vs.toArray 0) S rfl λh' g im=>OR.zw hv g im c
def IQ{h:Heap}:(h.push {cls:=.type "tuple",data:=.seq vs.toArray}).IsTuple h.objs.size vs.toArray:=⟨_,dX _ rfl,rfl,_,rfl⟩
def aR.tuple{xs:List V}(P:aR F μ st s st (.tup xs) Q)(S:ar F μ st s)(hv:aJ μ.ρ st.length s.heap xs vs):
 Q (.ref s.heap.objs.size) {s with heap:=s.heap.push {cls:=.type "tuple",data:=.seq vs.toArray},toks:=t}:=by
 have k:∀b o',s.heap.get? b=some o'->(s.heap.push {cls:=.type "tuple",data:=.seq vs.toArray}).get? b=some o':=λb o' e=>cS _ e;exact P.keeps (s':={s with heap:=s.heap.push {cls:=.type "tuple",data:=.seq vs.toArray},toks:=t}) S k rfl rfl (.tup IQ (hv.mono (λY Y=>rfl) (bG _) (cM.of_keeps k)))
def eqD_some{b:V}(h:mH a b st=some (r,U)):bZ 6 st a b=some r/\st=U:=by
 unfold mH at h;split at h
 .cases h;exact⟨by assumption,rfl⟩
 .cases h
def R7(O:Ok F)(S:ar F μ st s)(n:Nat){b:V}{v:ai}(hu:A.units+n<cLine)(h:bZ n st a b=some r)(x:VR μ.ρ st.length s.heap a u)(y:VR μ.ρ st.length s.heap b v):RcAt A s u v r:=by
 cases n with
 |zero=>exact IB h x y
 |succ n=>exact C4 O S n (.rc (bq az av [.l (.add (.add af aK) aX) av] rfl hu)) (λh x y=>C6 O S n (by(exact bq (.add (.add az ak) aX) av [.l (.add (.add af aK) aX) av] rfl hu)) h x y) h x y
def lT.ne(hu:A.units<cLine):lT F A s ρ N λu v r=>RcNeAt A s u v (!r) where
 kb h x y:=IH h x y
 kt ht dW e he:=by have:=RcNeAt.tuples ht dW hu he;rw[e,Nat.min_self,beq_self_eq_true,C5]at this;exact this
 kl ht dW e he:=RcNeAt.lists ht dW e hu he
 zt ht dW e:=RcNeAt.lists_lengths ht dW (bne_iff_ne.mpr e) hu
 kd n1 n2 d1 d2 e hits:=λp w' E Q hq=>keq_ne (knd:=cV p w') n1 n2 (rd d1) (rd d2) hu (λY=>hits) (by rw[e,beq_self_eq_true];exact hq)
 zu n1 n2 d1 d2 e:=λp w' E Q hq=>keq_ne (knd:=cV p w') (r:=false) n1 n2 (rd d1) (rd d2) hu (λq=>absurd q e) (by rw[C1];exact hq)
def R8(O:Ok F)(S:ar F μ st s)(n:Nat){b:V}{v:ai}(hu:A.units+n<cLine)(h:bZ n st a b=some r)(x:VR μ.ρ st.length s.heap a u)(y:VR μ.ρ st.length s.heap b v):RcNeAt A s u v (!r):=by
 cases n with
 |zero=>exact IH h x y
 |succ n=>exact C4 (Z:=λu v r=>RcNeAt A s u v (!r)) O S n (.ne (bq az av [.l (.add (.add af aK) aX) av] rfl hu)) (λh x y=>C6 O S n (by(exact bq (.add (.add az ak) aX) av [.l (.add (.add af aK) aX) av] rfl hu)) h x y) h x y
def anyEq_some{xs:List V}:∀{r:Bool} {st U:ah},nW a xs st=some (r,U)->st=U/\∃rs:List Bool,rs.length=xs.length/\r=rs.any id/\∀(j:Nat) x b,xs[j]? =some x->rs[j]? =some b->bZ 6 st x a=some b:=by
 induction xs with
 |nil=>
  intro r st U h;obtain⟨rfl,rfl⟩:=rt_some h;exact⟨rfl,[],rfl,rfl,λj x b e=>by simp at e⟩
 |cons x xs ih=>
  intro r st U h;obtain⟨b,au,h1,h2⟩:=bd_some h;obtain⟨e1,rfl⟩:=eqD_some h1;obtain⟨c,aH,h3,h4⟩:=bd_some h2;obtain⟨rfl,rs,hl,rfl,hr⟩:=ih h3;obtain⟨rfl,rfl⟩:=rt_some h4;refine⟨rfl,b::rs,by simp[hl],by simp,λj y c hy hc=> ?_⟩;cases j with
  |zero=>simp at hy hc;subst hy;subst hc;exact e1
  |succ j=>exact hr j y c hy hc
abbrev oh(vs:List ai)(rs:List Bool)(y:ai):Bool:=by
 classical exact decide (∃j:Nat,vs[j]? =some y/\rs[j]? =some true)
def zx{rs:List Bool}{y:ai}:oh vs rs y=true<->∃j:Nat,vs[j]? =some y/\rs[j]? =some true:=by unfold oh;simp
def IS(O:Ok F)(S:ar F μ st s){xs:List V}{rs:List Bool}(hu:A.units+6<cLine)(hv:aJ μ.ρ st.length s.heap xs vs)(hl:rs.length=xs.length)
 (hr:∀(j:Nat) x b,xs[j]? =some x->rs[j]? =some b->bZ 6 st x a=some b) (ha:VR μ.ρ st.length s.heap a w):
 (∀y,y∈vs.toArray->EqAt A s y w (oh vs rs y))/\vs.toArray.any (oh vs rs)=rs.any id:=by
 have at_:∀(j:Nat) (y:ai) (b:Bool),vs[j]? =some y->rs[j]? =some b->EqAt A s y w b:=λj y b hy hb=>by
  have hj:j<xs.length:=by rw[<-hl];exact(b9.mp hb).1
  obtain⟨u,h1,h2⟩:=hv.get (dS hj);rw[hy]at h1;cases h1;exact C6 O S 6 hu (hr j _ b (dS hj) hb) h2 ha
 have ex:∀y∈vs,∃(j:Nat) (b:Bool),vs[j]? =some y/\rs[j]? =some b:=λy hy=>by
  obtain⟨j,hj,e⟩:=IT.mp hy;have iw:j<rs.length:=by rw[hl,<-hv.length];exact hj
  exact⟨j,rs[j],by rw[dS hj,e],dS iw⟩
 refine⟨λy hy=> ?_, ?_⟩
 .by_cases h:∃j:Nat,vs[j]? =some y/\rs[j]? =some true
  .rw[(zx.mpr h)];obtain⟨j,h1,h2⟩:=h;exact at_ j y true h1 h2
  .have:oh vs rs y=false:=by cases q:oh vs rs y with|false=>rfl|true=>exact absurd (zx.mp q) h
   rw[this];obtain⟨j,b,h1,h2⟩:=ex y (by simpa using hy);cases b with
   |false=>exact at_ j y false h1 h2
   |true=>exact absurd ⟨j,h1,h2⟩ h
 .rw[R9];simp only[List.any_toArray,Sa,id];constructor
  .rintro⟨y,_,h⟩;obtain⟨j,_,h2⟩:=zx.mp h;exact⟨true,jL h2,rfl⟩
  .rintro⟨b,hb,rfl⟩;obtain⟨j,hj,e⟩:=IT.mp hb;have iw:j<vs.length:=by rw[hv.length,<-hl];exact hj
   refine⟨vs[j],C8 iw, ?_⟩;exact zx.mpr ⟨j,dS iw,by rw[dS hj,e]⟩
abbrev zy(F:Fix)(A:bB)(E:ai->ao->Prop)(Q:ai->ao->Prop)(s:ao)(u v:ai)(r:Bool):Prop:=((∀t,Q (.bool r) {s with toks:=t})->aq F.m A (compareOp .In u v) Q E s)/\((∀t,Q (.bool !r) {s with toks:=t})->aq F.m A (compareOp .NotIn u v) Q E s)
def in_dict(O:Ok F)(S:ar F μ st s){i:Int}{t:Tok}{kvs:List (V×V)}(hl:l<st.length)(e:st[l]? =some (.dict kvs ep))(hk:kvs.all (λp=>p.1.isInt)=true):zy F A E Q s (.int i t) (.ref (μ.ρ l)) (bL kvs (.int i)).isSome:=by
 obtain⟨ks,D,_,hb⟩:=RV S e hk;have ns:=O.pz S hl;rw[<-(S.obj _ _ e).1]at ns;have hi:(valueAt ks i).isSome=(bL kvs (.int i)).isSome:=by
  cases q:bL kvs (.int i)with
  |none=>rw[(hb i).2 q];rfl
  |some w=>exact((hb i).1 w q).elim λu h=>h.1▸rfl
 exact hi▸⟨λq=>wpAny_in_of (knd:=cV F.prog F.w) (decide_eq_true rfl) ns D.mapOf (q _),λq=>wpAny_notIn_of (knd:=cV F.prog F.w) (decide_eq_true rfl) ns D.mapOf (q _)⟩
def in_list(O:Ok F)(S:ar F μ st s)(hu:A.in1.units+6<cLine){xs:List V}(e:st[l]? =some (.list xs))(h:nW a xs st=some (r,U))(x:VR μ.ρ st.length s.heap a u):st=U/\zy F A E Q s u (.ref (μ.ρ l)) r:=by
 obtain⟨e1,rs,hl,e2,hr⟩:=anyEq_some h;obtain⟨vs,L,hs,_⟩:=fV S e;obtain⟨h1,h2⟩:=IS (A:=A.in1) O S hu hs hl hr x;exact⟨e1,e2▸⟨λq=>in_listAt (oh vs rs) L h1 (h2▸q s.toks),λq=>notIn_listAt (oh vs rs) L h1 (h2▸q s.toks)⟩⟩
def Sb(O:Ok F)(S:ar F μ st s)(hu:A.in1.units+6<cLine){xs:List V}(ht:s.heap.IsTuple p (gG vs))(hs:aJ μ.ρ st.length s.heap xs vs)(h:nW a xs st=some (r,U))(x:VR μ.ρ st.length s.heap a u):st=U/\zy F A E Q s u (.ref p) r:=by
 obtain⟨e1,rs,hl,e2,hr⟩:=anyEq_some h;obtain⟨h1,h2⟩:=IS (A:=A.in1) O S hu hs hl hr x;exact⟨e1,e2▸⟨λq=>in_tupleAt (oh vs rs) ht h1 (h2▸q s.toks),λq=>notIn_tupleAt (oh vs rs) ht h1 (h2▸q s.toks)⟩⟩
private def IU(O:Ok F)(S:ar F μ st s){b:V}{v:ai}(R:cy A 1)(h:contains a b st=some (r,U))(x:VR μ.ρ st.length s.heap a u)(y:VR μ.ρ st.length s.heap b v):st=U/\zy F A E Q s u v r:=by
 have hu:A.in1.units+6<cLine:=by have:=R.units;exact aG (.add (.add az o8) aX) ak [.l (.add (.add (.add af (.mulL 10 aX)) kG) aX) ak] rfl this
 cases b<;>first|exact noNS h|skip
 case tup xs=>exact y.out.elim λp q=>q.elim λvs q=>q.1▸Sb O S hu q.2.1 q.2.2 h x
 case ab l=>
  rw[y.out.1];refine bc h λo au h1 h2=> ?_;obtain⟨e,e1⟩:=getO_some h1;subst e1;cases o<;>first|exact noNS h2|skip
  case list xs=>exact in_list O S hu e h2 x
  case dict kvs ep=>
   obtain⟨hk,h2⟩:=if_some h2;obtain⟨we,sb⟩:=(eO _ _).mp hk;obtain⟨e1,e2⟩:=rt_some h2;refine(IJ we).elim λi ei=> ?_;rw[ei]at x e1;exact⟨e2,e1▸x.out.elim λt et=>et▸in_dict O S y.out.2 e sb⟩
def VR.IV{h:Heap}(x:VR ρ N h a u):(u==jl)=mF a:=by cases x<;>rfl
def VR.none_inv{h:Heap}(x:VR ρ N h a u)(e:mF a=true):u= .none:=by cases x<;>first|rfl|exact cu e
def is_some{b:V}(h:cmp .Is a b st=some (v,U)):mF b=true/\v= .bool (mF a)/\st=U:=(if_some h).elim λe h=>(rt_some h).elim λe1 e2=>⟨e,e1.symm,e2⟩
def isnot_some{b:V}(h:cmp .IsNot a b st=some (v,U)):mF b=true/\v= .bool (!mF a)/\st=U:=(if_some h).elim λe h=>(rt_some h).elim λe1 e2=>⟨e,e1.symm,e2⟩
def rf{b:V}{f:Int->Int->M α}{r:α×ah}(h:(bd (cR a) λi=>bd (cR b) λj=>f i j) st=some r)(k:∀i j,a= .int i->b= .int j->f i j st=some r->C):C:=kX h λi ea h=>kX h λj eb h=>k i j ea eb h
def VR.int_inv{h:Heap}{i:Int}(x:VR ρ N h a u)(e:a= .int i):∃t,u= .int i t:=(e▸x).out
def aR.fin{c:Bool}(P:aR F μ st s U v Q)(S:ar F μ st s)(e1:st=U)(e2:v= .bool c)(t:Nat):Q (.bool c) {s with toks:=t}:=by subst e1;subst e2;exact P.tok S (.bool c)
def Sd(S:ar F μ st s){b:V}(h:cmp .Is a b st=some (v,U))(x:VR μ.ρ st.length s.heap a u)(y:VR μ.ρ st.length s.heap b w)
 (P:aR F μ st s U v Q):aq F.m A (compareOp .Is u w) Q E s:=by
 obtain⟨e0,e2,e1⟩:=is_some h;rw[y.none_inv e0];exact is_none_gen (x.IV▸P.fin S e1 e2 s.toks)
def Se(S:ar F μ st s){b:V}(h:cmp .IsNot a b st=some (v,U))(x:VR μ.ρ st.length s.heap a u)(y:VR μ.ρ st.length s.heap b w)
 (P:aR F μ st s U v Q):aq F.m A (compareOp .IsNot u w) Q E s:=by
 obtain⟨e0,e2,e1⟩:=isnot_some h;rw[y.none_inv e0];exact isnot_none_gen (x.IV▸P.fin S e1 e2 s.toks)
def Sf(S:ar F μ st s){b:V}(h:cmp .Lt a b st=some (v,U))(x:VR μ.ρ st.length s.heap a u)(y:VR μ.ρ st.length s.heap b w)
 (P:aR F μ st s U v Q):aq F.m A (compareOp .Lt u w) Q E s:=
 rf h λi j ea eb h=>by
  obtain⟨t,rfl⟩:=x.int_inv ea;obtain⟨t',rfl⟩:=y.int_inv eb;exact Sg (P.fin S (rt_some h).2 (rt_some h).1.symm s.toks)
def Sh(S:ar F μ st s){b:V}(h:cmp .LtE a b st=some (v,U))(x:VR μ.ρ st.length s.heap a u)(y:VR μ.ρ st.length s.heap b w)
 (P:aR F μ st s U v Q):aq F.m A (compareOp .LtE u w) Q E s:=
 rf h λi j ea eb h=>by
  obtain⟨t,rfl⟩:=x.int_inv ea;obtain⟨t',rfl⟩:=y.int_inv eb;exact PyProof.Rows.le_int (P.fin S (rt_some h).2 (rt_some h).1.symm s.toks)
def Si(S:ar F μ st s){b:V}(h:cmp .Gt a b st=some (v,U))(x:VR μ.ρ st.length s.heap a u)(y:VR μ.ρ st.length s.heap b w)
 (P:aR F μ st s U v Q):aq F.m A (compareOp .Gt u w) Q E s:=
 rf h λi j ea eb h=>by
  obtain⟨t,rfl⟩:=x.int_inv ea;obtain⟨t',rfl⟩:=y.int_inv eb;exact PyProof.Rows.gt_int (P.fin S (rt_some h).2 (rt_some h).1.symm s.toks)
def Sj(S:ar F μ st s){b:V}(h:cmp .GtE a b st=some (v,U))(x:VR μ.ρ st.length s.heap a u)(y:VR μ.ρ st.length s.heap b w)
 (P:aR F μ st s U v Q):aq F.m A (compareOp .GtE u w) Q E s:=
 rf h λi j ea eb h=>by
  obtain⟨t,rfl⟩:=x.int_inv ea;obtain⟨t',rfl⟩:=y.int_inv eb;exact PyProof.Rows.ge_int (P.fin S (rt_some h).2 (rt_some h).1.symm s.toks)
def IW(O:Ok F)(S:ar F μ st s){o:CmpOp}{b:V}{Q:ai->ao->Prop}(R:cy A 1)(h:cmp o a b st=some (v,U))(x:VR μ.ρ st.length s.heap a u)(y:VR μ.ρ st.length s.heap b w)
 (P:aR F μ st s U v Q):aq F.m A (compareOp o u w) Q E s:=by
 have hu:A.units+6<cLine:=by have:=R.units;exact aG (.add (.add af o8) aX) ak [.l (.add (.add (.add af (.mulL 10 aX)) kG) aX) ak] rfl this
 cases o with
 |Eq=>
  refine bc h λr au h1 h2=> ?_;obtain⟨e1,e3⟩:=eqD_some h1;obtain⟨e2,e4⟩:=rt_some h2;exact R7 O S 6 hu e1 x y _ _ _ _ (P.fin S (e3.trans e4) e2.symm s.toks)
 |NotEq=>
  refine bc h λr au h1 h2=> ?_;obtain⟨e1,e3⟩:=eqD_some h1;obtain⟨e2,e4⟩:=rt_some h2;exact R8 O S 6 hu e1 x y _ _ _ _ (P.fin S (e3.trans e4) e2.symm s.toks)
 |In=>
  refine bc h λr au h1 h2=> ?_;obtain⟨e2,e4⟩:=rt_some h2;obtain⟨e3,k,_⟩:=IU (E:=E) (Q:=Q) O S R h1 x y;exact k (P.fin S (e3.trans e4) e2.symm)
 |NotIn=>
  refine bc h λr au h1 h2=> ?_;obtain⟨e2,e4⟩:=rt_some h2;obtain⟨e3,_,k⟩:=IU (E:=E) (Q:=Q) O S R h1 x y;exact k (P.fin S (e3.trans e4) e2.symm)
 |Is=>exact Sd S h x y P
 |IsNot=>exact Se S h x y P
 |Lt=>exact Sf S h x y P
 |LtE=>exact Sh S h x y P
 |Gt=>exact Si S h x y P
 |GtE=>exact Sj S h x y P
def IX{a:Int}(h1: -big<=a)(h2:a<=big):a.natAbs<2 ^ 63:=
 have lt:∀{x:Int},x<=big->x<((2 ^ 63:Nat):Int):=λh=>ug h (by decide)
 jm.mp ((Int.le_total 0 a).elim (λh=>ug (C9 (Int.natAbs_of_nonneg h)) (lt h2)) λh=>ug (C9 (Int.ofNat_natAbs_of_nonpos h)) (lt (Int.neg_le_of_neg_le h1)))
def Sk{a:Int}(h1: -big<=a)(h2:a<=big):Builtin.Int.intBits a<=64:=bx (PySem.intBits_le_iff.mpr (IX h1 h2)) (by decide)
def Sl{a b:Int}(h1: -big<=a)(h2:a<=big):Sm a b=false:=by
 unfold Sm;have hd:(if(a==0)=true then 0 else a.natAbs.log2 / 30+1)<=150:=by
  by_cases h:(a==0)=true
  .rw[if_pos h];exact dJ _
  .rw[if_neg h];exact bx (mQ (Nat.div_le_div_right (pB ((Nat.log2_lt (mt Int.natAbs_eq_zero.mp λe=>h (beq_iff_eq.mpr e))).mpr (IX h1 h2))))) (by decide)
 simp only;rw[decide_eq_false (p:=_>_+150) (ln2 [.l af (.num 150),.l (.add (.add ak (.num 150)) aX) af] rfl hd),C1]
def Sn(S:ar F μ st s){xs ys:List V}{us:List ai}(hl:s.heap.IsList p us.toArray)(hb:s.heap.IsList q vs.toArray)(hx:aJ μ.ρ st.length s.heap xs us)(hy:aJ μ.ρ st.length s.heap ys vs)
 (h:cg (xs++ys) st=some (v,U)) (P:aR F μ st s U v Q):aq F.m A (binaryOp .Add (.ref p) (.ref q)) Q E s:=by
 obtain⟨⟨cls,dd,data,sl⟩,ho,hc,n,hd⟩:=id hl;obtain⟨⟨So,wg,data2,wh⟩,jM,wi,n2,hd2⟩:=id hb;simp only at hc hd wi hd2;subst hc hd wi hd2;have e:us.toArray++vs.toArray=(us++vs).toArray:=by simp
 have hz:us.toArray.size+vs.toArray.size<=sizeLine:=by
  have:=(newL_some h).1;have:=iU;simp only[eI,hx.length,hy.length];simp only[bM]at*
  exact dC nQ ak [.l af ak,.l nQ af] rfl (by assumption) this
 refine concat_meets ⟨_,ho,rfl⟩ ⟨_,jM,rfl⟩ noFill_list_add seq_list_add PySem.F.slot_list_add PySem.F.entry_list_add (PySem.F.args_list_add_2 _ _) (list_addW p q us.toArray vs.toArray n n2 dd wg sl wh hz) ⟨ho,jM, ?_⟩;rw[e];exact P.list (t:=s.toks) h S (hx.append hy)
def Sp(S:ar F μ st s){xs ys:List V}{us:List ai}(ht:s.heap.IsTuple p us.toArray)(hb:s.heap.IsTuple q vs.toArray)(hx:aJ μ.ρ st.length s.heap xs us)(hy:aJ μ.ρ st.length s.heap ys vs)
 (h:xs.length+ys.length<=bH) (P:aR F μ st s st (.tup (xs++ys)) Q):aq F.m A (binaryOp .Add (.ref p) (.ref q)) Q E s:=by
 obtain⟨⟨cls,dd,data,sl⟩,ho,hc,n,hd⟩:=id ht;obtain⟨⟨So,wg,data2,wh⟩,jM,wi,n2,hd2⟩:=id hb;simp only at hc hd wi hd2;subst hc hd wi hd2;have e:us.toArray++vs.toArray=(us++vs).toArray:=by simp
 by_cases hv:us=[]
 .subst hv;have:=se.mp hx.length.symm;subst this;exact concat_meets ⟨_,ho,rfl⟩ ⟨_,jM,rfl⟩ noFill_tuple_add seq_tuple_add IY IZ (I4 _ _)
   (tuple_addW0 p q _ vs.toArray n n2 dd wg sl wh rfl) ⟨ho,jM,P.tok (t:=s.toks) S (.tup hb hy)⟩
 .clear hb;by_cases hw:vs=[]
  .subst hw;have:=se.mp hy.length.symm;subst this;rw[gv]at P;exact concat_meets ⟨_,ho,rfl⟩ ⟨_,jM,rfl⟩ noFill_tuple_add seq_tuple_add IY IZ (I4 _ _)
    (tuple_addW1 p q us.toArray _ n n2 dd wg sl wh (by simpa using hv) rfl) ⟨ho,jM,P.tok (t:=s.toks) S (.tup ht hx)⟩
  .refine concat_meets ⟨_,ho,rfl⟩ ⟨_,jM,rfl⟩ noFill_tuple_add seq_tuple_add IY IZ (I4 _ _)
    (tuple_addW2 p q us.toArray vs.toArray n n2 dd wg sl wh (by simpa using hv) (by simpa using hw) ?_) ⟨ho,jM, ?_⟩
   .simp only[eI,hx.length,hy.length]
    exact dC cI bo [.l cI av,.l av bo] rfl h iU
   .rw[e];exact P.tuple (t:=s.toks) S (hx.append hy)
def aR.int{k:Int}(P:aR F μ st s U v Q)(S:ar F μ st s)(h:rt (.int k) st=some (v,U))(t n:Nat):Q (.int k t) {s with toks:=n}:=by
 obtain⟨rfl,rfl⟩:=rt_some h;exact P.tok S (.int _ _)
def Sq(S:ar F μ st s){b:V}(h:binop .Sub a b st=some (v,U))(x:VR μ.ρ st.length s.heap a u)(y:VR μ.ρ st.length s.heap b w)
 (P:aR F μ st s U v Q):aq F.m A (binaryOp .Sub u w) Q E s:=rf h λi j ea eb h=>by
 obtain⟨t,rfl⟩:=x.int_inv ea;obtain⟨t',rfl⟩:=y.int_inv eb;exact PyProof.Rows.sub_int' (P.int S h _ _)
def Sr(S:ar F μ st s){b:V}(h:binop .Mult a b st=some (v,U))(x:VR μ.ρ st.length s.heap a u)(y:VR μ.ρ st.length s.heap b w)
 (P:aR F μ st s U v Q):aq F.m A (binaryOp .Mult u w) Q E s:=rf h λi j ea eb h=>by
 obtain⟨t,rfl⟩:=x.int_inv ea;obtain⟨t',rfl⟩:=y.int_inv eb;have hb:=(if_some h).1;exact PyProof.Rows.mul_int (P.int S (if_some h).2 _ _) (.of_left (Sk hb.1 hb.2.1))
def Ss(S:ar F μ st s){b:V}(h:binop .FloorDiv a b st=some (v,U))(x:VR μ.ρ st.length s.heap a u)(y:VR μ.ρ st.length s.heap b w)
 (P:aR F μ st s U v Q):aq F.m A (binaryOp .FloorDiv u w) Q E s:=rf h λi j ea eb h=>by
 obtain⟨t,rfl⟩:=x.int_inv ea;obtain⟨t',rfl⟩:=y.int_inv eb;have hb:=not_or.mp (if_some h).1;have I5:=not_or.mp hb.2;exact PyProof.Rows.floordiv_int hb.1 (P.int S (if_some h).2 _ _) (.inl (Sl (zA.mp I5.1) (zA.mp I5.2)))
def Su(S:ar F μ st s){b:V}(h:binop .Mod a b st=some (v,U))(x:VR μ.ρ st.length s.heap a u)(y:VR μ.ρ st.length s.heap b w)
 (P:aR F μ st s U v Q):aq F.m A (binaryOp .Mod u w) Q E s:=rf h λi j ea eb h=>by
 obtain⟨t,rfl⟩:=x.int_inv ea;obtain⟨t',rfl⟩:=y.int_inv eb;exact PyProof.Rows.mod_int (if_some h).1 (P.int S (if_some h).2 _ _)
private def Sv(S:ar F μ st s){b:V}(h:H8 a b st=some (v,U))(x:VR μ.ρ st.length s.heap a u)(y:VR μ.ρ st.length s.heap b w)
 (P:aR F μ st s U v Q):aq F.m A (binaryOp .Add u w) Q E s:=by
 cases a<;>first|exact noNS h|skip
 case int i=>
  exact kX h λj eb h=>(x.out.elim λt ex=>(y.int_inv eb).elim λt' ey=>ex▸ey▸PyProof.Rows.add_int (P.int S h _ _))
 case tup xs=>
  refine ze h λys eb h=> ?_;subst eb;refine x.out.elim λp q=>q.elim λus q=>y.out.elim λp' q'=>q'.elim λvs q'=> ?_;refine bc h λY au h1 h2=> ?_;obtain⟨hc,e1⟩:=fits_some h1;obtain⟨e2,e3⟩:=rt_some h2;rw[q.1,q'.1];exact Sp S q.2.1 q'.2.1 q.2.2 q'.2.2 hc (e2▸e1.trans e3▸P)
 case ab l=>
  refine bc h λp au h1 h2=>bc h2 λq aH h3 h4=> ?_;clear h h2;obtain⟨e1,g1,zB⟩:=getL_some h1;subst zB;obtain⟨e2,g2,eX⟩:=getL_some h3;subst eX;subst e2;rw[x.out.1,y.out.1];rw[V.ab.inj e1]at x⊢;obtain⟨us,L1,r1,_⟩:=fV S g1;obtain⟨vs,L2,r2,_⟩:=fV S g2;exact Sn S L1 L2 r1 r2 h4 P
def Sw(S:ar F μ st s){o:Operator}{b:V}(h:binop o a b st=some (v,U))(x:VR μ.ρ st.length s.heap a u)(y:VR μ.ρ st.length s.heap b w)
 (P:aR F μ st s U v Q):aq F.m A (binaryOp o u w) Q E s:=by
 cases o<;>first|exact noNS h|exact Sv S h x y P|exact Sq S h x y P|exact Sr S h x y P|exact Ss S h x y P|exact Su S h x y P
end
end
variable{r:V}{x:Str}{tk:Tok}{R:Result→ao→Prop}
section
variable{n:Str}
def C':(Dc x t).isStr n=decide (x=n):=zk x n
variable{es:List dc}{fs:List (Str×V)}{i:Int}
section
variable{st:ah}
def Ok.K(O:Ok F)(S:ar F μ st s):F.K.In s.heap:=O.KX.keeps S.base
def FE.find{h:Heap}(r:FE w ρ N h es fs)(e:eV fs n=some v):
 ∃e,es.find? (λe=>e.key.isStr n)=some e/\VR ρ N h v e.val:=by
 induction r with
 |nil=>cases e
 | @cons m t x val es fs a r ih=>
  rw[wj,show(Dc m t).isStr n=decide (m=n)from C' ..];by_cases hm:m=n
  .rw[show eV ((m,x)::fs) n=some x from if_pos hm]at e;rw[decide_eq_true hm];exact⟨_,rfl,bF e▸a⟩
  .rw[show eV ((m,x)::fs) n=eV fs n from if_neg hm]at e;rw[decide_eq_false hm];exact ih e
def FE.noRef{h:Heap}(r:FE w ρ N h es fs):es.any (·.refKey)=false:=by
 induction r with
 |nil=>rfl
 |cons a r ih=>exact ih
def FE.none{h:Heap}(r:FE w ρ N h es fs)(e:eV fs n=Sx):es.find? (λe=>e.key.isStr n)=Sx/\es.any (·.refKey)=false:=by
 refine⟨?_,r.noRef⟩;induction r with
 |nil=>rfl
 | @cons m t x val es fs a r ih=>
  rw[wj,show(Dc m t).isStr n=decide (m=n)from C' ..];by_cases hm:m=n
  .rw[show eV ((m,x)::fs) n=some x from if_pos hm]at e;cases e
  .rw[show eV ((m,x)::fs) n=eV fs n from if_neg hm]at e;rw[decide_eq_false hm];exact ih e
def FE.length{h:Heap}(r:FE w ρ N h es fs):es.length=fs.length:=by
 induction r with
 |nil=>rfl
 |cons a r ih=>exact congrArg n8 ih
def FE.put{h:Heap}(hv:VR ρ N h v u)(r:FE w ρ N h es fs):
 FE w ρ N h (putL n (qV w.params n) (.str n t) u es) (nV fs n v):=by
 induction r with
 |nil=>exact .cons hv .nil
 | @cons m t x val es fs a r ih=>
  rw[putL,Cx,show(Dc m t).isStr n=decide (m=n)from C' ..];by_cases hm:m=n
  .rw[decide_eq_true hm,if_pos hm];exact .cons hv r
  .rw[decide_eq_false hm,if_neg hm];exact .cons a ih
def Sy:∀{m:Str},m∈(nV fs n v).map (·.1)->m=n\/m∈fs.map (·.1):=by
 induction fs with
 |nil=>intro m h;exact .inl (bV.mp h)
 |cons p r ih=>
  intro m h;rw[Cx]at h;split at h
  .right;exact h
  .rw[bU]at h;rcases h with rfl|h
   .right;exact dz
   .rcases ih h with h|h
    .exact .inl h
    .right;exact dM _ h
def Sz:(fs.map (·.1)).Nodup->((nV fs n v).map (·.1)).Nodup:=by
 induction fs with
 |nil=>intro _;exact d0.mpr ⟨lR,.nil⟩
 |cons p r ih=>
  intro h;rw[eP,d0]at h;rw[Cx];split
  .exact d0.mpr h
  .rename_i hp;rw[eP,d0];refine⟨λhm=> ?_,ih h.2⟩;rcases Sy hm with e|e
   .exact hp e
   .exact h.1 e
def zC(S:ar F μ st s)(h:st[l]? =some (.inst c fs)):
 ∃es n,InstAt s.heap (μ.ρ l) (instObj (F.ca c) (μ.σ l)) (F.ca c) (some (dictOf es n))/\s.heap.get? (μ.σ l)=some (dictOf es n)/\FE F.w μ.ρ st.length s.heap es fs/\(fs.map (·.1)).Nodup/\dR c F.P.classes=true:=Exists.imp (λY h=>h.imp λY h=>⟨⟨h.1,rfl,rfl,h.2.1⟩,h.2⟩) (S.obj l _ h)
def VR.handed{h:Heap}(x:VR ρ N h v u):handedIn u=true:=by cases x<;>rfl
private def SA(O:Ok F)(S:ar F μ st s){ex:Bool}(h:getAttr F.P v n st=some (r,U))(x:VR μ.ρ st.length s.heap v u)(P:aR F μ st s U r Q):
 aq F.m A (PySem.getAttr u n ex) Q E s:=by
 cases x with
 | @ab l hl=>
  obtain⟨o,au,h1,h2⟩:=bd_some h;obtain⟨e,rfl⟩:=getO_some h1;cases o with
  |inst c fs=>
   simp only at h2;split at h2
   .rename_i ha;obtain⟨hf,rfl⟩:=op_some h2;obtain⟨es,k,I,g,r,nd,hc⟩:=zC S e;obtain⟨en,h3,hv⟩:=r.find hf;exact get_value (O.K S) I (O.CZ c hc) (findObj_own (O.CY c hc) (O.attr c n hc ha) rfl (by rw[lookIn_dict];unfold SD;rw[h3])) hv.handed (P.tok S hv)
   .cases h2
  |_=>cases h2
 |_=>cases h
def SE{K:Frag}{x C dx:Addr}{name:Str}{v:ai}{n:Nat}(X:K.In s.heap)(I:InstAt s.heap x (instObj C dx) C (some (dictOf es n)))
 (hp:plainOver K C=true) (ht:takerIn K C name=some none) (hh:hasDictIn K C=true) (hr:es.any (·.refKey)=false) (hz:es.length<=1000)
 (h:R (.ok (.ret .none)) {s with heap:=s.heap.update dx (Dd name (qV F.w.params name) (.str name s.toks) v),toks:=s.toks+1}):
 iV F.m A (.call (.builtin "object.__setattr__") ⟨[.ref x,.str name tk,v],[]⟩) R s:=by
 refine osa_open X I hp ht λb=> ?_;obtain⟨cd,hc,qY⟩:=any_some hh;obtain⟨hx,n9,hn,D⟩:=I;have D1:=D;refine wB (aF (b8 (wB (wpAny_loadPart hx (b8 ((looks_clsIn X hc).here ?_))))));rw[qY];refine aF (a:=some dx) (wB (aF (b8 ?_)));refine wB (wB (zD (aF (wB (wpAny_mkText (b8 (wpAny_loadPart D1 ?_)))))));have c:(!es.toArray.any (·.key.isStr name) && es.toArray.any (·.refKey))=false:=by rw[<-SF,<-SF];rw[hr,C1]
 dsimp only;rw[aRefKeyMayBeTheName_at,c];refine wpAny_updatePart D1 ?_;have e:=putName_dict name (qV F.w.params name) (.str name s.toks) v es n;have D':=kY (Dd name (qV F.w.params name) (.str name s.toks) v) D1 (by rw[e];rfl);rw[e]at D';refine wB (wpAny_lookBehind D' (pastItsLine_dict ?_) ?_)
 .have:(putL name (qV F.w.params name) (.str name s.toks) v es).length<=es.length+1:=by
   clear hr hz h D D1 c e D';induction es with
   |nil=>simp[putL]
   |cons a r ih=>rw[putL];split<;>simp<;>(exact aG af aK [.l af aK] rfl ih)
  exact aG ak (.add (.num 16777216) aX) [.l af dI,.l ak az] rfl hz this
 .exact aF h
private def SG(O:Ok F)(S:ar F μ st s){w:ai}{Q:Unit->ao->Prop}{i:Unit}(h:setAttr F.P v n r st=some (i,U))(x:VR μ.ρ st.length s.heap v u)(y:VR μ.ρ st.length s.heap r w)(P:gu F μ st s U (Q ())):
 aq F.m A (PySem.setAttr u n w) Q E s:=by
 cases x with
 | @ab l hl=>
  obtain⟨o,au,h1,h2⟩:=bd_some h;obtain⟨e,rfl⟩:=getO_some h1;cases o with
  |inst c fs=>
   simp only at h2;split at h2
   .rename_i ha;rw[eO]at ha;obtain⟨bY,rfl⟩:=putO_some h2;obtain⟨es,k,I,g,r,nd,hc⟩:=zC S e;refine set_plain (O.K S) I (O.IM c hc) ?_;refine SE (s:={s with toks:=s.toks+1}) (show F.K.In s.heap from O.K S) I (O.plain c hc) (by unfold takerIn;rw[O.attr c n hc ha.1];rfl) (O.CY c hc) r.noRef (by exact a9 af dI [.l af cK] rfl (by rw[r.length];exact pC ha.2)) ?_;have e1:=putName_dict n (qV F.w.params n) (.str n (s.toks+1)) w es k;have g':=kY (Dd n (qV F.w.params n) (.str n (s.toks+1)) w) g (by rw[e1];rfl);rw[e1]at g';obtain⟨S',T'⟩:=S.change (s':={s with heap:=s.heap.update (μ.σ l) (Dd n (qV F.w.params n) (.str n (s.toks+1)) w),toks:=s.toks+1+1}) (o:=.inst c (nV fs n _)) bY (S.v7 e rfl)
     (λb ob hb e=>(kZ _ _ (b0 hb)).trans e) rfl rfl (by
      exact⟨_,_,(kZ _ _ (λq=>S.yZ e bY q.symm)).trans I.at_,g',(r.put y).mono (λY Y=>rfl) (bG _) (y6 g (.inr rfl) λb ob hb e=>(kZ _ _ (b0 hb)).trans e),Sz nd,hc⟩)
    exact P _ _ S' T'
   .cases h2
  |_=>cases h2
 |_=>cases h
def idx_some{n:Nat}(h:idx n i=some j):(0<=i/\i<n/\i.toNat=j)\/(i<0/\0<=i+n/\(i+n).toNat=j):=by
 unfold idx at h;by_cases h0:0<=i
 .rw[if_pos h0]at h;by_cases h1:i<n
  .rw[if_pos h1]at h;exact .inl ⟨h0,h1,bF h⟩
  .rw[if_neg h1]at h;cases h
 .rw[if_neg h0]at h;by_cases h1:0<=i+n
  .rw[if_pos h1]at h;exact .inr ⟨wm.mp h0,h1,bF h⟩
  .rw[if_neg h1]at h;cases h
def I6{n:Int}(h:0<=i+n): -n<=i:=Int.sub_nonneg.mp (by rw[Int.sub_neg];exact h)
def I7{n:Nat}(h:0<=i+n)(k:(n:Int)<2 ^ 63): -(2 ^ 63)<=i:=k5 (Int.neg_le_neg (wo k)) (I6 h)
def SH(h:i<0):i<2 ^ 63:=De h (by decide)
def SI(h:0<=i): -(2 ^ 63)<=i:=k5 (by decide) h
def SJ{n:Nat}(h:0<=i)(k:i<n):seqIndex? i n=some i.toNat:=by unfold seqIndex?;rw[if_neg (zA.mpr h)];exact if_pos (lQ.mpr ⟨decide_eq_true h,decide_eq_true k⟩)
def SK{n:Nat}(h:i<0)(k:0<=i+n):seqIndex? i n=some (i+n).toNat:=by unfold seqIndex?;rw[if_pos h];exact if_pos (lQ.mpr ⟨decide_eq_true k,decide_eq_true (I8 (Int.add_lt_add_right h n) (C9 (Int.zero_add _)))⟩)
def SM(S:ar F μ st s){xs:List V}{vs:List ai}{t:Tok}(hl:s.heap.IsList p vs.toArray)(hv:aJ μ.ρ st.length s.heap xs vs)(hc:xs.length<=bH)
 (h:((idx xs.length i).bind λj=>xs[j]?)=some v) (P:aR F μ st s st v Q):aq F.m A (jN (.ref p) (.int i t)) Q E s:=by
 obtain⟨j,h1,h2⟩:=fg.mp h;obtain⟨u,h3,h4⟩:=hv.get h2;have lU:=wc hc;rcases idx_some h1 with⟨h0,jO,rfl⟩|⟨h0,jO,rfl⟩
 .exact wpAny_getItem_list hl h0 (De jO lU) (sf.trans h3) (P.tok (t:=s.toks) S h4)
 .rw[<-hv.length]at jO lU h3;exact wpAny_getItem_list_neg hl h0 (I6 jO) (I7 jO lU) (sf.trans h3) (P.tok (t:=s.toks) S h4)
def SN(S:ar F μ st s){xs:List V}{vs:List ai}{t:Tok}(hl:s.heap.IsTuple p vs.toArray)(hv:aJ μ.ρ st.length s.heap xs vs)(hc:xs.length<=bH)
 (h:((idx xs.length i).bind λj=>xs[j]?)=some v) (P:aR F μ st s st v Q):aq F.m A (jN (.ref p) (.int i t)) Q E s:=by
 obtain⟨j,h1,h2⟩:=fg.mp h;obtain⟨u,h3,h4⟩:=hv.get h2;have lU:=wc hc;rw[<-hv.length]at lU h1;rcases idx_some h1 with⟨h0,jO,rfl⟩|⟨h0,jO,rfl⟩
 .exact SO hl (SI h0) (De jO lU) (SJ h0 jO) (sf.trans h3) (P.tok (t:=s.toks) S h4)
 .exact SO hl (I7 jO lU) (SH h0) (SK h0 jO) (sf.trans h3) (P.tok (t:=s.toks) S h4)
end
end
variable{d:Addr}
section
mutual
abbrev gw:V->Nat
 |.int _=>1
 |.str _=>1
 |.tup l=>sg l+1
 |_=>0
abbrev sg:List V->Nat
 |[]=>0
 |v::r=>gw v+sg r
end
def SP(k:V)(l:List V):sg (l++[k])=sg l+gw k:=by
 induction l with
 |nil=>exact(nP _).symm
 |cons a r ih=>exact(congrArg (gw a+·) (ih)).trans (nO ..).symm
def SQ(w:bQ)(k:V)(l:List V):mI w (l++[k])=mI w l++[iu w k]:=by
 induction l with
 |nil=>exact rfl
 |cons a r ih=>exact congrArg (iu w a::·) (ih)
variable{l:List V}
def I9{m:Nat}(h:∀v∈l,v.eA m=true):(V.tup l).eA (m+1)=true:=fE.mpr h
def Ja(h:(V.tup l).eA n=true):∃m,n=m+1/\∀v∈l,v.eA m=true:=by
 cases n with
 |zero=>exact cu h
 |succ m=>exact⟨m,rfl,fE.mp h⟩
def pD(h:k.isTup=true):k.eA 4=true:=by cases k<;>first|exact cu h|exact h
def SR(hk:k.eA n=true){Z:V->Prop}(ki:∀i,Z (.int i))(ks:∀i,Z (.str i))(kt:∀m l,n=m+1->(∀v∈l,v.eA m=true)->Z (.tup l)):Z k:=by
 cases k with
 |int i=>exact ki i
 |str i=>exact ks i
 |tup l=>exact(Ja hk).elim λm h=>kt m l h.1 h.2
 |_=>cases n<;>exact cu hk
def VR.jn{ρ:Nat->Addr}{N:Nat}{h:Heap}(x:VR ρ N h k u)(hk:k.eA n=true){Z:V->ai->Prop}(ki:∀i t,Z (.int i) (.int i t))(ks:∀i t,Z (.str i) (.str i t))
 (kt:∀m l a vs,n=m+1->(∀v∈l,v.eA m=true)->h.IsTuple a (gG vs)->aJ ρ N h l vs->Z (.tup l) (.ref a)):Z k u:=
 SR hk (Z:=λk=>VR ρ N h k u->Z k u) (λi x=>x.out.elim λt e=>e▸ki i t) (λi x=>x.out.elim λt e=>e▸ks i t)
  (λm l e hl x=>x.out.elim λa q=>q.elim λvs q=>q.1▸kt m l a vs e hl q.2.1 q.2.2) x
def VR.key{ρ:Nat->Addr}{N:Nat}{h:Heap}(n:Nat)(hk:k.eA n=true)(x:VR ρ N h k u):VR gr N' h k u:=by
 induction n generalizing k u with
 |zero=>exact x.jn hk .int .str λm l a vs e=>nomatch e
 |succ n ih=>exact x.jn hk .int .str λm l a vs e hl ht hs=>.tup ht (hs.mapR λv u hv y=>ih (iS e▸hl v hv) y)
def Df(x:s.heap.IsTuple a items):s.TypeIs (.ref a) "tuple":=x.imp λY h=>⟨h.1,h.2.1⟩
def SS{vs:List ai}(ih:∀{k:V} {u:ai} {A:bB} {s:ao} {Q:Int->ao->Prop},k.eA n=true->VR ρ N s.heap k u->A.units+n<cLine->Q (iu w k) {s with toks:=s.toks+gw k}->aq (model prog w) A (pyHash u) Q E s)
 {A:bB} {s:ao} {Q:Int->ao->Prop} (hm:∀v∈l,v.eA n=true) (ht:s.heap.IsTuple a (gG vs)) (hs:aJ ρ N s.heap l vs) (hu:A.units+(n+1)<cLine) (h:Q (iu w (.tup l)) {s with toks:=s.toks+gw (.tup l)}):
 aq (model prog w) A (pyHash (.ref a)) Q E s:=by
 have hT:=Df ht;obtain⟨o,ho,_,n',hd⟩:=ht
 first|refine wB (wpAny_cRoomFor_or (.inr (iT (pA _ _) hu)) ?_)|skip
 refine wB (sh hT Dg.lookup ?_);refine wB (sh hT Dg.lookup ?_);refine wB (wpAny_callSpecialIfBoundUnlessNone?_slot hT Dg (iW Dg hT PySem.F.entry_tuple_hash ?_ (PySem.F.args_tuple_hash_1 _)));show aq _ _ (Builtin.Tuple.tupleItemsOf (.ref a) >>= _) _ _ s;refine wB (wpAny_tupleItemsOf ho hd ?_);refine wB ?_;rw[<-SU];refine wpAny_forIn_list _
  (λrest (b:Array Int) s'=>∃done left,l=done++left/\aJ ρ N s.heap left rest/\b.toList=mI w done/\s'={s with toks:=s.toks+sg done})
  _ ?_ ?_ _ _ ⟨[],l,rfl,by simpa using hs,rfl,rfl⟩
 .intro x rest b s' hI;refine hI.elim λdone hI=>hI.elim λleft hI=> ?_;obtain⟨hl,hr,hb,e⟩:=hI;rw[e];cases left with
  |nil=>exact nomatch hr.lM
  |cons k ks=>
   refine hr.iq λu us e' h1 bY=> ?_;cases e';refine wB (ih (s:={s with toks:=s.toks+sg done}) (A:=A.in1) (hm k (by rw[hl];simp)) h1 (by(exact bq (.add (.add az ak) aX) av [.l (.add (.add af aK) aX) av] rfl hu)) ?_)
   first
    |exact aF ⟨done++[k],ks,by rw[hl];simp,bY,by simp[hb,SQ],by simp[SP,nO]⟩
    |exact wB (aF (aF ⟨done++[k],ks,by rw[hl]⟩))
 .intro b s' hI;refine hI.elim λdone hI=>hI.elim λleft hI=> ?_;obtain⟨hl,hr,hb,e⟩:=hI;have Dh:left=[]:=by have:=hr.length;exact Jb this.symm
  rw[Dh,gv]at hl;rw[e];show aq _ _ (retInt (r8 b.toList)) _ _ _;rw[hb,<-hl];refine wpAny_ret_mkInt ?_;show aq _ _ (if(decide (-(2:Int) ^ 63<=r8 (mI w l)) && decide (r8 (mI w l)<2 ^ 63))=true then _ else _) Q E _;have h:Q (if(decide (-(2:Int) ^ 63<=r8 (mI w l)) && decide (r8 (mI w l)<2 ^ 63))=true then _ else _) {s with toks:=s.toks+(sg l+1)}:=h;by_cases hr:(decide (-(2:Int) ^ 63<=r8 (mI w l)) && decide (r8 (mI w l)<2 ^ 63))=true
  .rw[if_pos hr]at h⊢;exact aF (by assumption)
  .rw[if_neg hr]at h⊢;exact wB (mS (aF (by simpa[nO]using h)))
def zE(n:Nat):∀{k:V} {u:ai} {A:bB} {s:ao} {Q:Int->ao->Prop},k.eA n=true->VR ρ N s.heap k u->A.units+n<cLine->Q (iu w k) {s with toks:=s.toks+gw k}->aq (model prog w) A (pyHash u) Q E s:=by
 induction n with
 |zero=>intro k u A s Q hk x;exact x.jn hk (Z:=λk u=>A.units+0<cLine->Q (iu w k) {s with toks:=s.toks+gw k}->aq (model prog w) A (pyHash u) Q E s) (λi t Y h=>wpAny_pyHash_int h) (λi t Y h=>wpAny_pyHash_str h) λm l a vs e=>nomatch e
 |succ n ih=>intro k u A s Q hk x;exact x.jn hk (Z:=λk u=>A.units+(n+1)<cLine->Q (iu w k) {s with toks:=s.toks+gw k}->aq (model prog w) A (pyHash u) Q E s) (λi t Y h=>wpAny_pyHash_int h) (λi t Y h=>wpAny_pyHash_str h) λm l a vs e hl ht hs=>SS ih (iS e▸hl) ht hs
def SV{d:Nat}{vs:List ai}(ih:∀{k:V} {u:ai} {A:bB} {s:ao} {Q:Bool->ao->Prop},k.eA n=true->VR ρ N s.heap k u->Q true s->aq (model prog w) A (eqIsQuiet d u) Q E s)
 {s:ao} {Q:Bool->ao->Prop} (hm:∀v∈l,v.eA n=true) (ht:s.heap.IsTuple a (gG vs)) (hs:aJ ρ N s.heap l vs) (h:Q true s):aq (model prog w) A (eqIsQuiet (d+1) (.ref a)) Q E s:=by
 have hT:=Df ht;obtain⟨o,ho,_,n',hd⟩:=ht;unfold eqIsQuiet;refine wB (sh hT PySem.F.slot_tuple_eq.lookup ?_);refine wB (wpAny_isInstance hT isSubtype_tuple_tuple ?_);refine wB (rg ho hd ?_);refine wB ?_;rw[<-SU];refine wpAny_forIn_list _ (λrest r s'=>r.1=none/\s'=s/\∃left,aJ ρ N s.heap left rest/\∀v∈left,v.eA n=true) _ ?_ ?_ _ _ ⟨rfl,rfl,l,by simpa using hs,hm⟩
 .intro v rest r s' hI;refine hI.2.2.elim λleft hl=> ?_;rw[hI.2.1];cases left with
  |nil=>exact nomatch hl.1.lM
  |cons k ks=>refine hl.1.iq λu us e' h1 bY=> ?_;cases e';refine wB (ih (hl.2 k (.head _)) h1 ?_);exact aF ⟨rfl,rfl,ks,bY,λu SW=>hl.2 u (.tail _ SW)⟩
 .intro r s' hI;rw[hI.2.1];obtain⟨r1,r2⟩:=r;have e:=hI.1;clear hI;subst e;exact aF h
def SX(n:Nat):∀(d:Nat) {k:V} {u:ai} {A:bB} {s:ao} {Q:Bool->ao->Prop},n<=d->k.eA n=true->VR ρ N s.heap k u->Q true s->aq (model prog w) A (eqIsQuiet d u) Q E s:=by
 have hi:∀(d:Nat) (i:Int) t {A:bB} {s:ao} {Q:Bool->ao->Prop},Q true s->aq (model prog w) A (eqIsQuiet d (.int i t)) Q E s:=λd i t Y Y Y h=>by rw[eqIsQuiet_byValue _ rfl];exact aF h
 have hs:∀(d:Nat) (i:Str) t {A:bB} {s:ao} {Q:Bool->ao->Prop},Q true s->aq (model prog w) A (eqIsQuiet d (.str i t)) Q E s:=λd i t Y Y Y h=>by rw[eqIsQuiet_byValue _ rfl];exact aF h
 induction n with
 |zero=>intro d k u A s Q gW hk x;exact x.jn hk (Z:=λk u=>Q true s->aq (model prog w) A (eqIsQuiet d u) Q E s) (λi t h=>hi d i t h) (λi t h=>hs d i t h) λm l a vs e=>nomatch e
 |succ n ih=>
  intro d k u A s Q gW hk x;cases d with
  |zero=>exact absurd gW (Nat.not_succ_le_zero n)
  |succ d=>exact x.jn hk (Z:=λk u=>Q true s->aq (model prog w) A (eqIsQuiet (d+1) u) Q E s) (λi t h=>hi _ i t h) (λi t h=>hs _ i t h) λm l a vs e hl ht hs h=>SV (ih d (Jc gW)) (iS e▸hl) ht hs h
def aJ.SY(f:∀{x y:V} {v:ai},x.eA n=true->y.eA n=true->VR ρ N s.heap x v->VR ρ N s.heap y v->x=y):
 ∀{x y:List V} {v:List ai},(∀k∈x,k.eA n=true)->(∀k∈y,k.eA n=true)->aJ ρ N s.heap x v->aJ ρ N s.heap y v->x=y:=by
 intro x;induction x with
 |nil=>intro y v _ _ p q;exact(Jb (q.length.symm.trans p.length)).symm
 |cons a r ih=>
  intro y v h1 h2 p q;refine p.iq λu us e p1 p2=> ?_;clear p;subst e;cases y with
  |nil=>exact nomatch q.lM
  |cons b t=>refine q.iq λu' Jd e q1 q2=> ?_;cases e;rw[f (h1 _ (.head _)) (h2 _ (.head _)) p1 q1,ih (λk hk=>h1 k (.tail _ hk)) (λk hk=>h2 k (.tail _ hk)) p2 q2]
def VR.Je(n:Nat):∀{x y:V} {v:ai},x.eA n=true->y.eA n=true->VR ρ N s.heap x v->VR ρ N s.heap y v->x=y:=by
 induction n with
 |zero=>intro x y v h1 h2 p;exact p.jn h1 (Z:=λx v=>VR ρ N s.heap y v->x=y) (λi t q=>q.qZ.symm) (λi t q=>q.qZ.symm) λm l a vs e=>nomatch e
 |succ n ih=>
  intro x y v h1 h2 p;refine p.jn h1 (Z:=λx v=>VR ρ N s.heap y v->x=y) (λi t q=>q.qZ.symm) (λi t q=>q.qZ.symm) λm l a vs e hl ht hs q=> ?_;refine q.zi (λl' lN e' dW ff=> ?_) (λn' e' Y Y=>by rw[e']at h2;exact cu h2) λn' t u v e' Y=>by rw[e']at h2;exact cu h2
  rw[e']at h2⊢;refine(Ja h2).elim λm' h3=> ?_;have ev:vs=lN:=congrArg RP (Iw ht dW);rw[aJ.SY ih (iS e▸hl) (iS h3.1▸h3.2) hs (ev▸ff)]
abbrev zF(xs ys:List V)(j:Nat):Bool:=match xs[j]?,ys[j]? with|some a,some b=>V.beq a b|_,_=>true
def S0:∀(xs ys:List V),V.nU xs ys=((f' (min xs.length ys.length)).all (zF xs ys) && xs.length==ys.length):=by
 intro xs;induction xs with
 |nil=>intro ys;cases ys<;>rfl
 |cons a r ih=>
  intro ys;cases ys with
  |nil=>rfl
  |cons b t=>
  rw[show V.nU (a::r) (b::t)=(V.beq a b && V.nU r t)from rfl,ih t,mO,mO,Nat.succ_min_succ,RH,wa,RI];rw[Bool.and_assoc];congr 2;exact decide_eq_decide.mpr ⟨iS,congrArg _⟩|>.symm
def Jf{i j:Str}:V.beq (.str i) (.str j)=(i==j):=(zk i j).symm
def S8(n:Nat):∀{a b:V} {u v:ai} {A:bB},A.units+n<cLine->a.eA n=true->b.eA n=true->VR ρ N s.heap a u->VR ρ N s.heap b v->EqAt A s u v (V.beq a b):=by
 induction n with
 |zero=>
  intro a b u v A hu ha hb x y;refine x.jn ha (Z:=λa u=>EqAt A s u v (V.beq a b)) (λi t=> ?_) (λi t=> ?_) λm l a vs e=>nomatch e
  .exact y.jn hb (Z:=λb v=>EqAt A s (.int i t) v (V.beq (.int i) b)) (λj t'=>CW i t j t') (λj t'=>IF i t j t') λm l a vs e=>nomatch e
  .exact y.jn hb (Z:=λb v=>EqAt A s (.str i t) v (V.beq (.str i) b)) (λj t'=>IG i t j t') (λj t'=>Jf▸IE i t j t') λm l a vs e=>nomatch e
 |succ n ih=>
  intro a b u v A hu ha hb x y;have wq:A.units<cLine:=iT (pA _ _) hu;refine x.jn ha (Z:=λa u=>VR ρ N s.heap a u->EqAt A s u v (V.beq a b)) (λi t Y=> ?_) (λi t Y=> ?_) (λm l p us e hl ht hs x=> ?_) x
  .exact y.jn hb (Z:=λb v=>EqAt A s (.int i t) v (V.beq (.int i) b)) (λj t'=>CW i t j t') (λj t'=>IF i t j t') λm l a vs e hl ht hs=>EqAt.int_tuple i t ht wq
  .exact y.jn hb (Z:=λb v=>EqAt A s (.str i t) v (V.beq (.str i) b)) (λj t'=>IG i t j t') (λj t'=>Jf▸IE i t j t') λm l a vs e hl ht hs=>EqAt.str_tuple i t ht wq
  .refine y.jn hb (Z:=λb v=>VR ρ N s.heap b v->EqAt A s (.ref p) v (V.beq (.tup l) b)) (λj t' Y=>EqAt.tuple_int j t' ht wq) (λj t' Y=>EqAt.tuple_str j t' ht wq) (λm' l' q vs e' bY dW ff y=> ?_) y;by_cases Jg:p=q
   .subst Jg;rw[(VR.Je (n+1) (I9 (iS e▸hl)) (I9 (iS e'▸bY)) x y),V.beq_refl];exact ID _
   .have he:∀j (h1:j<us.toArray.size) (h2:j<vs.toArray.size),EqAt A.in1 s us.toArray[j] vs.toArray[j] (zF l l' j):=λj h1 h2=>
     (hs.zm h1).elim λx' hx=>(ff.zm h2).elim λy' hy=>(show zF l l' j=V.beq x' y' by simp[zF,hx.1,hy.1])▸
      ih (by(exact bq (.add (.add az ak) aX) av [.l (.add (.add af aK) aX) av] rfl hu)) (iS e▸hl _ (jL hx.1)) (iS e'▸bY _ (jL hy.1)) hx.2 hy.2
    refine .of_refs Jg ?_;rw[show V.beq (.tup l) (.tup l')=V.nU l l' from rfl,S0];simpa[hs.length,ff.length]using(RcAt.tuples ht dW wq he)
abbrev Jh(prog:eH)(w:bQ): @HeapKind prog w V zg:=
 letI:=zg
 {is:=λh k a=>VR (λY=>0) 0 h k (.ref a)/\k.isTup=true
  hash:=iu w
  draws:=gw
  room:=λA=>A.units+8<cLine
  inj:=λ{h a x y} hx hy=>by have e1:=pD hx.2;have e2:=pD hy.2;exact VR.Je (s:={heap:=h}) 4 e1 e2 hx.1 hy.1
  keeps:=λ{h h' k a d o es ep} x ho hd hs=>by
   refine⟨x.1.mono (λY Y=>rfl) (bG _) ⟨λb items ht=> ?_,λb n t u v hr=> ?_⟩,x.2⟩
   .obtain⟨ob,mK,hc,n,Di⟩:=ht;refine⟨ob,(hs.2 b λe=> ?_).trans mK,hc,n,Di⟩;subst e;rw[ho]at mK;cases mK;rw[hd]at Di;cases Di
   .refine(hs.2 b λe=> ?_).trans hr;subst e;have:=ho.symm.trans hr;cases this;cases hd
  pyHash:=λ{A E s k a Q} hu hk h=>by have e1:=pD hk.2;exact zE 4 e1 hk.1 (by exact aG (.add (.add af (.num 4)) aX) ak [.l (.add (.add af kH) aX) ak] rfl hu) h
  eqBool:=λ{A E s x y a b Q} hu hx hy h=>by
   have e1:=pD hx.2;have e2:=pD hy.2;refine S8 4 (by exact aG (.add (.add af (.num 4)) aX) ak [.l (.add (.add af kH) aX) ak] rfl hu) e1 e2 hx.1 hy.1 _ _ _ _ ?_;have:V.beq x y=decide (x=y):=by rw[R9,V.beq_iff];simp
   rw[this];exact h
  quiet:=λ{A E s k a Q} hk h=>by have e1:=pD hk.2;exact SX 4 8 (by decide) e1 hk.1 h}
end
variable{r:Option V}{f du:ai}{k' dv:V}{g:Array GenState}{n':Nat}
section
variable{es:List dc}{kvs:List (V×V)}
section
variable{h:Heap}
def ER.length(r:ER w ρ N h es kvs):es.length=kvs.length:=by
 induction r with
 |nil=>rfl
 |cons _ _ _ ih=>exact congrArg n8 ih
def ER.get{i:Nat}{p:V×V}(r:ER w ρ N h es kvs)(e:kvs[i]? =some p):∃e,es[i]? =some e/\VR ρ N h p.1 e.key/\VR ρ N h p.2 e.val/\e.hash=iu w p.1:=by
 induction r generalizing i with
 |nil=>cases e
 |cons a b _ ih=>
  cases i with
  |zero=>rw[<-bF e];exact⟨_,rfl,a,b,rfl⟩
  |succ i=>exact ih (i:=i) e
def Ji{r:List (V×V)}(hb:V.beq k' k=true)(hi:(((k',v)::r).findIdx? λp=>V.beq p.1 k)=some i):i=0:=by rw[uj,show V.beq (k',v).1 k=true from hb]at hi;exact(bF hi).symm
def Jj{r:List (V×V)}(hb:V.beq k' k=false)(hi:(((k',v)::r).findIdx? λp=>V.beq p.1 k)=some i):∃j,(r.findIdx? λp=>V.beq p.1 k)=some j/\i=j+1:=by rw[uj,show V.beq (k',v).1 k=false from hb]at hi;exact(gV.mp hi).elim λj h=>⟨j,h.1,h.2.symm⟩
def ER.set(r:ER w ρ N h es kvs)(hi:(kvs.findIdx? λp=>V.beq p.1 k)=some i)(hv:VR ρ N h v u):ER w ρ N h (es.modify i λe=>{e with val:=u}) (ec kvs k v):=by
 induction r generalizing i with
 |nil=>cases hi
 | @cons k' x key val es kvs a b r ih=>
  rw[vR];cases hb:V.beq k' k with
  |true=>rw[Ji hb hi];exact .cons a hv r
  |false=>
   obtain⟨j,hj,e⟩:=Jj hb hi;rw[e];exact .cons a b (ih hj)
def ER.push{key val:ai}(hk:VR ρ N h k key)(hv:VR ρ N h v val)(r:ER w ρ N h es kvs):ER w ρ N h (es++[⟨iu w k,key,val⟩]) (kvs++[(k,v)]):=by
 induction r with
 |nil=>exact .cons hk hv .nil
 |cons a b _ ih=>exact .cons a b ih
def ER.erase(r:ER w ρ N h es kvs)(hi:(kvs.findIdx? λp=>V.beq p.1 k)=some i):ER w ρ N h (es.eraseIdx i) (iP kvs k):=by
 induction r generalizing i with
 |nil=>cases hi
 | @cons k' x key val es kvs a b r ih=>
  rw[yU];cases hb:V.beq k' k with
  |true=>rw[Ji hb hi];exact r
  |false=>
   obtain⟨j,hj,e⟩:=Jj hb hi;rw[e];exact .cons a b (ih hj)
end
def Dj(kvs:List (V×V))(k:V):bL kvs k=((kvs.findIdx? λp=>V.beq p.1 k).bind λi=>kvs[i]?).map (·.2):=by
 induction kvs with
 |nil=>rfl
 |cons p r ih=>
  rw[yT,uj];cases hb:V.beq p.1 k with
  |true=>rfl
  |false=>simp only[zG,if_false,ih];cases r.findIdx? λp=>V.beq p.1 k<;>simp
def S9:∀{q:V×V},q∈ec kvs k v->(q.1=k/\q.2=v)\/q∈kvs:=by
 induction kvs with
 |nil=>intro q h;exact .inl (bV.mp h▸⟨rfl,rfl⟩)
 |cons p r ih=>
  intro q h;rw[vR]at h;split at h
  .rename_i hb;rcases bU.mp h with rfl|h
   .left;exact⟨V.beq_eq hb,rfl⟩
   .right;exact .tail _ h
  .rcases bU.mp h with rfl|h
   .right;exact .head _
   .rcases ih h with h|h
    .exact .inl h
    .right;exact .tail _ h
def fe.ec:fe kvs->fe (ec kvs k v):=by
 induction kvs with
 |nil=>intro _;exact⟨λq h=>(nomatch h),trivial⟩
 |cons p r ih=>
  intro h;rw[Internal.ec];split
  .exact⟨h.1,h.2⟩
  .rename_i hb;refine⟨λq hq=> ?_,ih h.2⟩;rcases S9 hq with⟨e,_⟩|hq
   .rw[e];cases hc:V.beq k p.1 with
    |false=>rfl
    |true=>rw[V.beq_eq hc,V.beq_refl]at hb;exact absurd rfl hb
   .exact h.1 q hq
def Ta:∀{q:V×V},q∈iP kvs k->q∈kvs:=by
 induction kvs with
 |nil=>intro q h;exact h
 |cons p r ih=>
  intro q h;rw[yU]at h;split at h
  .exact .tail _ h
  .rcases bU.mp h with rfl|h
   .exact .head _
   .exact .tail _ (ih h)
def fe.iP:fe kvs->fe (iP kvs k):=by
 induction kvs with
 |nil=>intro h;exact h
 |cons p r ih=>
  intro h;rw[yU];split
  .exact h.2
  .exact⟨λq hq=>h.1 q (Ta hq),ih h.2⟩
def Tb:∀{kvs:List (V×V)},bL kvs k=none->∀p∈kvs,V.beq p.1 k=false:=by
 intro kvs e p h;induction kvs with
 |nil=>cases h
 |cons q r ih=>
  rw[yT]at e;split at e
  .cases e
  .rename_i hb;rcases bU.mp h with rfl|h
   .exact Jk.mpr hb
   .exact ih e h
def fe.snoc:fe kvs->(∀p∈kvs,V.beq p.1 k=false)->fe (kvs++[(k,v)]):=by
 induction kvs with
 |nil=>intro _ _;exact⟨λq h=>(nomatch h),trivial⟩
 |cons p r ih=>
  intro h hn;refine⟨λq hq=> ?_,ih h.2 λq hq=>hn q (.tail _ hq)⟩;rcases dA.mp hq with hq|hq
  .exact h.1 q hq
  .rw[bV]at hq;subst hq;exact V.beq_false.mpr λe=>V.beq_false.mp (hn p (.head _)) e.symm
def Jl:bL kvs k=none->ec kvs k v=kvs++[(k,v)]:=by
 induction kvs with
 |nil=>intro h;exact rfl
 |cons p r ih=>
  intro h;rw[vR];rw[yT]at h;split
  .rename_i hb;rw[if_pos hb]at h;cases h
  .rename_i hb;rw[if_neg hb]at h;rw[ih h];rfl
section
variable{st:ah}
def Jm{w:bQ}{f:ai->Bool}{g:V->Bool}(r:ER w ρ N s.heap es kvs)(hf:∀k u,VR ρ N s.heap k u->f u=g k):(es.findIdx? λe=>f e.key)=kvs.findIdx? λp=>g p.1:=by
 induction r with
 |nil=>rfl
 | @cons k x key val es kvs a b r ih=>rw[uj,uj,ih];rw[hf k key a]
def Tc{w:bQ}{i:Int}(r:ER w ρ N s.heap es kvs):(es.findIdx? λe=>Jn i e.key)=kvs.findIdx? λp=>V.beq p.1 (.int i):=Jm (f:=Jn i) (g:=λk=>V.beq k (.int i)) r λk u a=>VR.casesOn a rfl (λY=>rfl) (λY Y=>rfl) (λY Y=>rfl) (λY Y=>rfl) (λY=>rfl) (λY Y=>rfl)
def Td{w:bQ}(r:ER w ρ N s.heap es kvs):(es.findIdx? λe=>Dk x e.key)=kvs.findIdx? λp=>V.beq p.1 (.str x):=Jm (f:=Dk x) (g:=λk=>V.beq k (.str x)) r λk u a=>VR.casesOn a rfl (λY=>rfl) (λY Y=>rfl) (λj Y=>zk j x) (λY Y=>rfl) (λY=>rfl) (λY Y=>rfl)
def Dl(h:eB k kvs=true):k.eA 4=true:=by
 cases k with
 |int i=>rfl
 |str i=>rfl
 |tup l=>exact pD (lQ.mp h).1
 |none=>exact cu h
 |bool _=>exact cu h
 |ab _=>exact cu h
 |cY _=>exact cu h
private def ER.Te{w:bQ}(r:ER w ρ N s.heap es kvs)(ek:kvs.all (λp=>p.1.isTup)=true):
 ∃xs:List (V×Addr×ai),es=xs.map (@entryOfKey F.prog w V zg (Jh F.prog w))/\(∀x∈xs,VR (λY=>0) 0 s.heap x.1 (.ref x.2.1)/\x.1.isTup=true)/\xs.map (·.1)=kvs.map (·.1):=by
 induction r with
 |nil=>exact⟨[],rfl,(λY h=>(nomatch h)),rfl⟩
 | @cons k x key val es kvs a b r ih=>
  rw[wa,eO]at ek;obtain⟨xs,h1,h2,h3⟩:=ih ek.2;cases k<;>first|exact cu ek.1|skip
  rename_i l;refine a.out.elim λp q=>q.elim λvs q=> ?_;have e:=q.1;clear q;subst e;refine⟨(.tup l,p,val)::xs,by rw[h1];rfl,λx hx=> ?_,congrArg (V.tup l::·) h3⟩;rcases bU.mp hx with e|hx
  .rw[e];exact⟨(VR.key (gr:=λY=>0) (N':=0) 4 (pD ek.1) a),ek.1⟩
  .exact h2 x hx
def fe.keys:fe kvs->(kvs.map (·.1)).Nodup:=by
 induction kvs with
 |nil=>intro _;exact uf
 |cons p r ih=>
  intro h;rw[eP,d0];refine⟨λhm=> ?_,ih h.2⟩;obtain⟨q,hq,e⟩:=d4.mp hm;have:=h.1 q hq;rw[e,V.beq_refl]at this;cases this
def Tf(h:v.isStr=true):∃i,v= .str i:=by cases v<;>first|exact⟨_,rfl⟩|exact cu h
def ER.strs{w:bQ}(r:ER w ρ N s.heap es kvs)(ek:kvs.all (λp=>p.1.isStr)=true):∀e∈es,∃k,(wu F.prog w).is k e.key=true/\e.hash=(wu F.prog w).hash k:=by
 induction r with
 |nil=>exact λe he=>nomatch he
 | @cons k v key val es kvs a b r ih=>
  rw[wa,eO]at ek;intro e he;rcases bU.mp he with he|he
  .refine(Tf ek.1).elim λj ej=> ?_;have ej:k= .str j:=ej;rw[ej]at a;refine a.out.elim λt et=> ?_;rw[he,et];exact⟨j,by simp[wu,Dk],by rw[ej];rfl⟩
  .exact ih ek.2 e he
def Tg(h:∀j:Nat,(kvs[j]?).map (·.1)≠some k):(kvs.findIdx? λp=>V.beq p.1 k)=none:=by
 rw[Ti];intro q hq;obtain⟨j,hj,e⟩:=IT.mp hq;refine V.beq_false.mpr λe'=>h j ?_;rw[dS hj,e,Jo,e']
def Tj(h:(kvs[j]?).map (·.1)=some k)(nk:(kvs.map (·.1)).Nodup):(kvs.findIdx? λp=>V.beq p.1 k)=some j:=by
 obtain⟨a,ha,hb⟩:=gV.mp h;obtain⟨cB,Dm⟩:=b9.mp ha;rw[Dn];refine⟨cB,by rw[Dm,hb];exact V.beq_refl _,λi hi=> ?_⟩;have lV:=sj hi cB;refine ne_true_of_eq_false (V.beq_false.mpr λe1=> ?_);exact eN hi ((List.getElem?_inj (by rw[aP];exact lV) nk).mp (by rw[fh,fh,dS lV,h,Jo,e1]))
def Tn{ep:Nat}{l:List V}{Q:Option Nat->ao->Prop}(hu:A.units+8<cLine)(hd:s.heap.get? d=some (dictOf es ep))(r:ER F.w ρ N s.heap es kvs)(nd:fe kvs)
 (hs:eB (.tup l) kvs=true) (x:VR ρ N s.heap (.tup l) (.ref p)) (h:Q (kvs.findIdx? λp=>V.beq p.1 (.tup l)) s):aq F.m A (dictFind d (.ref p) (iu F.w (.tup l))) Q E s:=by
 obtain⟨jP,sk⟩:=(eO _ _).mp hs;obtain⟨xs,h1,h2,h3⟩:=r.Te (F:=F) sk;have key:∀(j:Nat),(xs[j]?).map (·.1)=(kvs[j]?).map (·.1):=λj=>by rw[<-fh,<-fh,h3]
 refine @wpAny_dictFind_heap F.prog F.w V zg (Jh F.prog F.w) A E s d p _ es.toArray ep xs (.tup l) Q hu (⟨VR.key 4 (pD jP) x,jP⟩) hd rfl h1 h2 (h3▸nd.keys) (λum=> ?_) λj q hj=> ?_
 .rw[Tg λj e=> ?_]at h
  .exact h
  .rw[<-key]at e;obtain⟨a,ha,hb⟩:=gV.mp e;exact um j a.2 (by rw[ha,<-hb])
 .rw[Tj (by rw[<-key,hj];rfl) nd.keys]at h;exact h
private def Dp{ep:Nat}{k:V}{key:ai}{Q:Option Nat->ao->Prop}(hu:A.units+8<cLine)(hd:s.heap.get? d=some (dictOf es ep))(r:ER F.w ρ N s.heap es kvs)(nd:fe kvs)
 (hs:eB k kvs=true) (x:VR ρ N s.heap k key) (h:Q (kvs.findIdx? λp=>V.beq p.1 k) s):aq F.m A (dictFind d key (iu F.w k)) Q E s:=by
 cases k<;>first|exact cu hs|skip
 .rename_i i;refine x.out.elim λt e=>e▸wpAny_dictFind_of (knd:=cV F.prog F.w) (k:=i) (decide_eq_true rfl) hd rfl ((r.zo (F:=F) hs nd).elim λks K e he=>K.k e (wb.mp he)) ?_;rw[<-Tc r]at h;simpa[cV]using h
 .rename_i i;refine x.out.elim λt e=>e▸wpAny_dictFind_of (knd:=wu F.prog F.w) (k:=i) (by simp[wu,Dk]) hd rfl (λe he=>r.strs (F:=F) hs e (wb.mp he)) ?_;rw[<-Td r]at h;simpa[wu]using h
 .exact x.out.elim λp q=>q.elim λvs q=>q.1▸Tn hu hd r nd hs (q.1▸x) h
def VR.Jp{ρ:Nat->Addr}{N:Nat}{h:Heap}{a:V}(x:VR ρ N h a u)(e:a= .ab i):u= .ref (ρ i):=(e▸x).out.1
def Jq(h:∀e,ep=some e->n=e):∀e,ep.map (·+1)=some e->n+1=e:=λe q=>by
 cases ep with
 |none=>cases q
 |some x=>cases q;rw[h x rfl]
def To:(iP kvs k).length<=kvs.length:=by
 induction kvs with
 |nil=>exact bG _
 |cons p r ih=>
  rw[yU];split
  .simp
  .have:=ih;exact aG az aK [.l af ak] rfl this
def Tp:(kvs.findIdx? λp=>V.beq p.1 k).isSome=true->(ec kvs k v).length=kvs.length:=by
 induction kvs with
 |nil=>intro h;simp at h
 |cons p r ih=>
  intro h;rw[vR];split
  .rfl
  .rename_i hp;rw[uj,if_neg hp]at h;rw[mO,mO,ih (by simpa using h)]
def dictAt(S:ar F μ st s)(h:st[l]? =some (.dict kvs ep)):
 ∃es n,μ.ρ l=μ.σ l/\s.heap.get? (μ.ρ l)=some (dictOf es n)/\ER F.w μ.ρ st.length s.heap es kvs/\fe kvs/\kvs.length<=bH/\∀e,ep=some e->n=e:=
 have q:=S.obj l _ h
 q.2.imp λY h=>h.imp λY h=>⟨q.1,q.1▸h.1,h.2⟩
def rh{ep:Nat}(h:s.heap.get? d=some (dictOf es ep)):s.TypeIs (.ref d) "dict":=⟨_,h,rfl⟩
def Dq{ep:Nat}{key:ai}{Q:Option ai->ao->Prop}(hu:A.units+8<cLine)(hd:s.heap.get? d=some (dictOf es ep))(r:ER F.w ρ N s.heap es kvs)(nd:fe kvs)
 (hs:eB k kvs=true) (x:VR ρ N s.heap k key) (h0:bL kvs k=none->∀t,Q none {s with toks:=t}) (h1:∀v u,bL kvs k=some v->VR ρ N s.heap v u->∀t,Q (some u) {s with toks:=t}):
 aq F.m A (dictGet d key) Q E s:=by
 unfold dictGet
 try with_reducible refine dD ?_
 refine wB (zE 4 (Dl hs) x (aG (.add (.add af (.num 4)) aX) ak [.l (.add (.add af kH) aX) ak] rfl hu) ?_);refine b8 (Dp (s:={s with toks:=s.toks+gw k}) hu hd r nd hs x ?_);have e:=Dj kvs k;cases hi:kvs.findIdx? λp=>V.beq p.1 k with
 |none=>rw[hi]at e;exact aF (h0 e _)
 |some i=>
  rw[hi]at e;have cB:=(Dn.mp hi).1;rw[Jr,dS cB]at e;obtain⟨en,h2,_,h3,_⟩:=r.get (dS cB);refine b8 (wpAny_dictEntries (s:={s with toks:=s.toks+gw k}) hd rfl ?_);have:es.toArray[i]? =some en:=by simpa using h2
  rw[this];exact aF (h1 _ _ e h3 _)
def Tq(S:ar F μ st s){key:ai}(R:cy A 1)(h:st[l]? =some (.dict kvs ep))(hs:eB k kvs=true)(hg:bL kvs k=some v)
 (x:VR μ.ρ st.length s.heap k key) (P:aR F μ st s st v Q):aq F.m A (jN (.ref (μ.ρ l)) key) Q E s:=by
 obtain⟨es,n,e,hd,r,nd,fW,lW⟩:=dictAt S h;have hT:=rh hd;unfold jN
 try with_reducible refine dD ?_
 refine wB (wpAny_sequenceKey hT rfl ?_);refine b8 (wpAny_callSpecial?_slot (name:=aM "__getitem__") hT slot_dict_getitem
  (iW slot_dict_getitem hT entry_dict_getitem ?_ (args_dict_getitem _ _)))
 show aq _ _ (dictGet _ key >>= _) _ _ s;refine b8 (Dq (by have:=R.units;(exact aG (.add (.add az kH) aX) ak [.l (.add (.add (.add af (.mulL 10 aX)) kG) aX) ak] rfl this)) hd r nd hs x (λe=>by rw[hg]at e;cases e) λv' u e hv t=> ?_);rw[hg]at e;cases e;exact aF ⟨u,rfl,aF (P.tok S hv)⟩
def Tr(O:Ok F)(S:ar F μ st s){key:ai}(R:cy A 1)(h:st[l]? =some (.dict kvs ep))(hs:eB k kvs=true)
 (x:VR μ.ρ st.length s.heap k key) (P:aR F μ st s st ((bL kvs k).getD .none) Q):aq F.m A (call (.builtin "dict.get") [.ref (μ.ρ l),key]) Q E s:=by
 obtain⟨es,n,e,hd,r,nd,fW,lW⟩:=dictAt S h;have ns:=O.pz S (b9.mp h).1;rw[<-e]at ns;refine iW Js (rh hd) Tt ?_ (PySem.F.args_dict_get_2 _ _);show aq _ _ (dictGet _ key >>= _) _ _ s;refine wB (Dq (by have:=R.units;(exact aG (.add (.add az kH) aX) ak [.l (.add (.add (.add af (.mulL 10 aX)) kG) aX) ak] rfl this)) hd r nd hs x (λe t=> ?_) λv u e hv t=> ?_)
 .rw[e]at P;exact wB (wpAny_missed_other ns (aF ⟨.none,rfl,P.tok S .none⟩))
 .rw[e]at P;exact aF ⟨u,rfl,P.tok S hv⟩
def Tu(O:Ok F)(S:ar F μ st s){key:ai}(R:cy A 1)(h:st[l]? =some (.dict kvs ep))(hs:eB k kvs=true)
 (x:VR μ.ρ st.length s.heap k key) (y:VR μ.ρ st.length s.heap dv du) (P:aR F μ st s st ((bL kvs k).getD dv) Q):aq F.m A (call (.builtin "dict.get") [.ref (μ.ρ l),key,du]) Q E s:=by
 obtain⟨es,n,e,hd,r,nd,fW,lW⟩:=dictAt S h;have ns:=O.pz S (b9.mp h).1;rw[<-e]at ns;refine iW Js (rh hd) Tt ?_ (PySem.F.args_dict_get_3 _ _ _);show aq _ _ (dictGet _ key >>= _) _ _ s;refine wB (Dq (by have:=R.units;(exact aG (.add (.add az kH) aX) ak [.l (.add (.add (.add af (.mulL 10 aX)) kG) aX) ak] rfl this)) hd r nd hs x (λe t=> ?_) λv u e hv t=> ?_)
 .rw[e]at P;exact wB (wpAny_missed_other ns (aF ⟨du,rfl,P.tok S y⟩))
 .rw[e]at P;exact aF ⟨u,rfl,P.tok S hv⟩
def ar.dict(S:ar F μ st s){ri:List (V×V)}{dY:Option Nat}{iy:List dc}{f:Obj->Obj}{t:Nat}(hl:st[l]? =some (.dict kvs ep))(hd:s.heap.get? (μ.ρ l)=some (dictOf es n))(e:f (dictOf es n)=dictOf iy n')
 (r:ER F.w μ.ρ st.length s.heap iy ri) (nd:fe ri) (hc:ri.length<=bH) (he:∀e,dY=some e->n'=e):
 ar F μ (st.set l (.dict ri dY)) {s with heap:=s.heap.update (μ.ρ l) f,toks:=t}/\Step cq μ st.length s.heap μ (st.set l (.dict ri dY)).length (s.heap.update (μ.ρ l) f):=by
 have wx:=(S.obj l _ hl).1;have g':=kY f hd (by rw[e];rfl);rw[e]at g';rw[wx]at hd g'⊢;have k:∀b ob,b≠μ.σ l->s.heap.get? b=some ob->(s.heap.update (μ.σ l) f).get? b=some ob:=λb ob hb e=>(kZ _ _ (b0 hb)).trans e;exact S.change (s':={s with heap:=s.heap.update (μ.σ l) f,toks:=t}) ((b9.mp hl).1) (S.v7 hl rfl) k rfl rfl ⟨wx,iy,n',g',r.mono (λY Y=>rfl) (bG _) (y6 hd (.inr rfl) k),nd,hc,he⟩
def Dr{i:Unit}(h:eU dv k v st=some (i,U))(kk:∀l kvs ep dY,dv= .ab l->st[l]? =some (.dict kvs ep)->eB k kvs=true->U=st.set l (.dict (ec kvs k v) dY)->(((bL kvs k).isSome=true/\dY=ep)\/(bL kvs k=none/\dY=ep.map (·+1)/\kvs.length+1<=bH))->C):C:=by
 refine bc h λd au h1 h2=> ?_;obtain⟨l,kvs,ep⟩:=d;obtain⟨e0,hl,hs,e1⟩:=getDK_some h1;subst e1;cases e:bL kvs k with
 |some x=>rw[e]at h2;exact kk l kvs ep ep e0 hl hs (putO_some h2).2 (.inl ⟨by rw[e];rfl,rfl⟩)
 |none=>
  rw[e]at h2;refine bc h2 λY aH h3 h4=> ?_;obtain⟨hz,e2⟩:=fits_some h3;subst e2;exact kk l kvs ep _ e0 hl hs (by rw[Jl e];exact(putO_some h4).2) (.inr ⟨e,rfl,hz⟩)
def Ds(S:ar F μ st s){key:ai}{Q:Unit->ao->Prop}{i:Unit}(hu:A.units+8<cLine)(h:eU dv k v st=some (i,U))(xd:VR μ.ρ st.length s.heap dv (.ref d))(x:VR μ.ρ st.length s.heap k key)(y:VR μ.ρ st.length s.heap v u)
 (P:gu F μ st s U (Q ())):aq F.m A (dictSet d key u) Q E s:=by
 refine Dr h λl kvs ep dY e0 hl hs uo hc=> ?_;clear h;subst uo;have ed:=zj (xd.Jp e0);clear xd;subst ed;obtain⟨es,n,e,hd,r,nd,fW,lW⟩:=dictAt S hl;unfold dictSet
 try with_reducible refine dD ?_
 refine wB (zE 4 (Dl hs) x (aG (.add (.add af (.num 4)) aX) ak [.l (.add (.add af kH) aX) ak] rfl hu) ?_);unfold dictSetHashed
 try with_reducible refine dD ?_
 refine wB (Dp (s:={s with toks:=s.toks+gw k}) hu hd r nd hs x ?_);have ei:=Dj kvs k;clear hu;cases hi:kvs.findIdx? λp=>V.beq p.1 k with
 |some j=>
  have cB:=(Dn.mp hi).1;rw[hi,Jr,dS cB]at ei;have e':=hc.elim (λq=>q.2) λq=>nomatch ei.symm.trans q.1;subst e';refine wB (mS (wB (wpAny_updateDict (s:={s with toks:=s.toks+gw k}) hd rfl (wpAny_point ?_))));obtain⟨S',T'⟩:=S.dict (ri:=ec kvs k v) (iy:=es.modify j λe=>{e with val:=u}) (f:=Obj.mapDict (·.modify j λe=>{e with val:=u})) (t:=s.toks+gw k) hl hd
   (n':=n) (congrArg (λa=>({dictOf es n with data:=.dict a n}:Obj)) (List.modify_toArray ..)) (r.set hi y) nd.ec (by rw[Tp (by rw[hi];rfl)];exact fW) lW
  exact P _ _ S' T'
 |none=>
  rw[hi]at ei;have hc:=hc.elim (λq=>by rw[ei]at q;exact cu q.1) λq=>q.2;rw[hc.1,Jl ei]at P;refine wB (mS (wpAny_updateDictKeys (hz:=(by rw[eI,r.length];exact bx (Nat.le_of_succ_le hc.2) iU)) (s:={s with toks:=s.toks+gw k}) hd rfl ?_));obtain⟨S',T'⟩:=S.dict (ri:=kvs++[(k,v)]) (dY:=ep.map (·+1)) (n':=n+1) (iy:=es++[⟨iu F.w k,key,u⟩]) (f:=Tv (·.push ⟨iu F.w k,key,u⟩)) (t:=s.toks+gw k) hl hd
   (congrArg (λa=>({dictOf es n with data:=.dict a (n+1)}:Obj)) (List.push_toArray ..)) (r.push x y) (nd.snoc (Tb ei)) (rwE bM hc.2) (Jq lW)
  exact P _ _ S' T'
def Tw(S:ar F μ st s){key:ai}{Q:Unit->ao->Prop}{i:Unit}(R:cy A 1)(h:eU dv k v st=some (i,U))(xd:VR μ.ρ st.length s.heap dv du)(x:VR μ.ρ st.length s.heap k key)(y:VR μ.ρ st.length s.heap v u)
 (P:gu F μ st s U (Q ())):aq F.m A (Tx du key u) Q E s:=by
 refine Dr h λl kvs ep dY e0 hl hs uo hc=> ?_;have ed:=xd.Jp e0;subst ed;obtain⟨es,n,e,hd,r,nd,fW,lW⟩:=dictAt S hl;have hT:=rh hd;unfold Tx
 try with_reducible refine dD ?_
 refine wB (wpAny_sequenceKey hT rfl ?_);refine wB (wpAny_callSpecial?_slot (name:=aM "__setitem__") hT slot_dict_setitem
  (iW slot_dict_setitem hT entry_dict_setitem ?_ (args_dict_setitem _ _ _)))
 refine wB (wpAny_notOrdered_dict hT ?_);show aq _ _ (dictSet (μ.ρ l) key u >>= _) _ _ s;refine wB (Ds (Q:=λY s'=>aq _ _ _ _ _ s') S (by have:=R.units;(exact aG (.add (.add az kH) aX) ak [.l (.add (.add (.add af (.mulL 10 aX)) kG) aX) ak] rfl this)) h xd x y λbI s2 S2 T2=>aF ⟨.none,rfl,aF (P bI s2 S2 T2)⟩)
def Tz(S:ar F μ st s){key:ai}{Q:Unit->ao->Prop}(R:cy A 1)(hl:st[l]? =some (.dict kvs ep))(hs:eB k kvs=true)(hg:bL kvs k=some v)
 (x:VR μ.ρ st.length s.heap k key) (P:gu F μ st s (st.set l (.dict (iP kvs k) (ep.map (·+1)))) (Q ())):aq F.m A (delItem (.ref (μ.ρ l)) key) Q E s:=by
 obtain⟨es,n,e,hd,r,nd,fW,lW⟩:=dictAt S hl;have hT:=rh hd;unfold delItem
 try with_reducible refine dD ?_
 refine wB (wpAny_sequenceKey hT rfl ?_);refine b8 (wpAny_callSpecial?_slot (name:=aM "__delitem__") hT TA
  (iW TA hT PySem.F.entry_dict_delitem ?_ (PySem.F.args_dict_delitem_2 _ _)))
 refine wB ?_;refine wB (wpAny_notOrdered_dict hT ?_);refine aF ?_;show aq _ _ (TB (μ.ρ l) key >>= _) _ _ s;refine wB ?_;have hu:A.in1.units+8<cLine:=by have:=R.units;exact aG (.add (.add az kH) aX) ak [.l (.add (.add (.add af (.mulL 10 aX)) kG) aX) ak] rfl this
 unfold TB
 try with_reducible refine dD ?_
 refine wB (zE 4 (Dl hs) x (aG (.add (.add af (.num 4)) aX) ak [.l (.add (.add af kH) aX) ak] rfl hu) ?_);refine b8 (Dp (s:={s with toks:=s.toks+gw k}) hu hd r nd hs x ?_);have ei:=Dj kvs k;cases hi:kvs.findIdx? λp=>V.beq p.1 k with
 |none=>rw[hi,hg]at ei;cases ei
 |some j=>
  have cB:=(Dn.mp hi).1;obtain⟨en,h2,_,h3,_⟩:=r.get (dS cB);refine b8 (wpAny_dictEntries (s:={s with toks:=s.toks+gw k}) hd rfl ?_);have:es.toArray[j]? =some en:=by simpa using h2
  rw[this];have hsz:es.toArray.size<=sizeLine:=by rw[eI,r.length];exact bq af av [.l af ak,.l ak av] rfl fW iU
  refine wB (wpAny_updateDictKeys (hz:=hsz) (s:={s with toks:=s.toks+gw k}) hd rfl (aF ?_))
  .refine b8 (wpAny_letGo (aF ⟨.none,rfl,aF ?_⟩));obtain⟨S',T'⟩:=S.dict (ri:=iP kvs k) (dY:=ep.map (·+1)) (n':=n+1) (iy:=es.eraseIdx j) (f:=Tv (·.eraseIdxIfInBounds j)) (t:=s.toks+gw k) hl hd
    (congrArg (λa=>({dictOf es n with data:=.dict a (n+1)}:Obj)) (List.eraseIdxIfInBounds_toArray ..)) (r.erase hi) nd.iP (bx To fW) (Jq lW)
   exact P _ _ S' T'
end
end
variable{k:Nat}{x:String}{pl:Sem Bool}
section
variable{n:Str}
def oi(h:isName x n=true):n=aM x:=by simpa[isName]using h
variable{u:Unit}
section
variable{st:ah}
def listAt(S:ar F μ st s){xs:List V}(h:st[l]? =some (.list xs)):∃vs n,μ.ρ l=μ.σ l/\s.heap.get? (μ.σ l)=some (listOf (gG vs) n)/\aJ μ.ρ st.length s.heap xs vs/\xs.length<=bH:=
 have q:=S.obj l _ h
 q.2.imp λY h=>h.imp λY h=>⟨q.1,h⟩
def ar.Dt(S:ar F μ st s){ys:List V}{vs ws:List ai}{n:Nat}{f:Array ai->Array ai}{t:Nat}{Q:ao->Prop}(h:gE l ys st=some (u,U))(e:μ.ρ l=μ.σ l)
 (g:s.heap.get? (μ.σ l)=some (listOf vs.toArray n)) (hf:f vs.toArray=ws.toArray) (r:aJ μ.ρ st.length s.heap ys ws) (P:gu F μ st s U Q):
 Q {s with heap:=s.heap.update (μ.σ l) (dN f),toks:=t}:=by
 obtain⟨hc,hl,rfl,hz⟩:=setLs_some h;have hm:dN f (listOf vs.toArray n)=listOf ws.toArray (if ws.toArray.size==vs.toArray.size then n else n+1):=by show Obj.mk _ _ (.seq (f vs.toArray) (if(f vs.toArray).size==_ then _ else _)) _=_;rw[hf]
 have g':=kY (dN f) g rfl;rw[hm]at g';have k:∀b ob,b≠μ.σ l->s.heap.get? b=some ob->(s.heap.update (μ.σ l) (dN f)).get? b=some ob:=λb ob hb e=>(kZ _ _ (b0 hb)).trans e;obtain⟨S',T'⟩:=S.change (s':={s with heap:=s.heap.update (μ.σ l) (dN f),toks:=t}) (o:=.list ys) hl hz k rfl rfl ⟨e,ws,_,g',r.mono (λY Y=>rfl) (bG _) (y6 g (.inl rfl) k),hc⟩;exact P _ _ S' T'
def TF(S:ar F μ st s){xs:List V}{w:ai}(h0:st[l]? =some (.list xs))(h:gE l (xs++[v]) st=some (u,U))(x:VR μ.ρ st.length s.heap v w)
 (P:gu F μ st s U (Q .none)):aq F.m A (call (.builtin "list.append") [.ref (μ.ρ l),w]) Q E s:=by
 obtain⟨vs,n,e,g,r,c⟩:=listAt S h0;rw[e];refine call_meets Jt ⟨_,g,rfl⟩ TG (TJ _ _) (TK _ vs.toArray n w (by rw[eI,r.length];exact bx c iU)) ⟨g, ?_⟩;exact S.Dt (ws:=vs++[w]) (t:=s.toks) h e g (by simp) (r.append (.cons x .nil)) P
def TL(S:ar F μ st s){xs ys:List V}(h0:st[l]? =some (.list xs))(h1:st[k]? =some (.list ys))(h:gE l (xs++ys) st=some (u,U))
 (P:gu F μ st s U (Q .none)):aq F.m A (call (.builtin "list.extend") [.ref (μ.ρ l),.ref (μ.ρ k)]) Q E s:=by
 obtain⟨vs,n,e,g,r,c⟩:=listAt S h0;clear c;obtain⟨ws,m,e2,g2,r2,c2⟩:=listAt S h1;clear c2;rw[e,e2];have hs:vs.toArray.size+ws.toArray.size<=sizeLine:=by rw[eI,eI,r.length,r2.length];have:=(setLs_some h).1;rw[bM]at this;exact bx this iU
 refine call_meets TM ⟨_,g,rfl⟩ PySem.F.entry_list_extend (PySem.F.args_list_extend_2 _ _) (AutoSeq1.list_extend_list_list_0 _ vs.toArray n _ ws.toArray m (extend_door hs) (bx (pA _ _) hs)) ⟨g,g2, ?_⟩;exact S.Dt (ws:=vs++ws) (t:=s.toks) h e g (by simp) (r.append r2) P
def aJ.dropLast{h:Heap}{l:List V}{vs:List ai}(r:aJ ρ N h l vs):aJ ρ N h l.dropLast vs.dropLast:=by rw[Ju,Ju,r.length];exact r.take _
def TN(S:ar F μ st s){xs:List V}(h0:st[l]? =some (.list xs))(hv:xs.getLast? =some v)(h:gE l xs.dropLast st=some (u,U))
 (P:aR F μ st s U v Q):aq F.m A (call (.builtin "list.pop") [.ref (μ.ρ l)]) Q E s:=by
 obtain⟨vs,n,e,g,r,c⟩:=listAt S h0;rw[e];rw[List.getLast?_eq_getElem?]at hv;obtain⟨w,hw,x⟩:=r.get hv;have hz:=r.length;refine call_meets TP ⟨_,g,rfl⟩ PySem.F.entry_list_pop (PySem.F.args_list_pop_1 _) (ajJ _ vs.toArray n w (by rw[eI,hz];simpa using hw) (by rw[eI,hz];exact bx c iU)) ⟨g, ?_⟩;refine S.Dt (ws:=vs.dropLast) (t:=s.toks) h e g ?_ r.dropLast (λaI s' S' T'=>P aI s' w S' T' (T'.VR x));have:vs=vs.dropLast++[w]:=by
  have ba:vs≠[]:=by intro q;rw[q]at hz;exact ln2 [.q iN af,.l aK af] rfl hz ((b9.mp hv).1)
  have h2:vs.getLast ba=w:=by rw[List.getLast_eq_getElem];rw[<-hz]at hw;exact(b9.mp hw).2
  rw[<-h2,uq]
 have k:=kl_erase vs.dropLast [] w;rw[gv,<-this,zH]at k;exact k
def TQ(S:ar F μ st s){xs:List V}{is:List Int}{i:Int}(h0:st[l]? =some (.list xs))(hi:dZ xs=some is)
 (P:aR F μ st s st (.int (is.count i:Nat)) Q):aq F.m A (call (.builtin "list.count") [.ref (μ.ρ l),.int i t]) Q E s:=by
 obtain⟨vs,L,r,e⟩:=fV S h0;exact count_list_ints L (r.ints hi) (P.tok S (.int _ _))
def zI(S:ar F μ st s){xs:List V}{Q:ai×List ai->ao->Prop}{id:String}(slot:Slot "list" n id)(Du:typeOf (.builtin id)=pure (.type "method_descriptor"))(h0:st[l]? =some (.list xs))(h:Q (.builtin id,[.ref (μ.ρ l)]) s):
 aq F.m A (getMethod (.ref (μ.ρ l)) n pl) Q E s:=by
 obtain⟨vs,m,e,g,r,c⟩:=listAt S h0;rw[e]at h⊢;exact getMethod_builtin ⟨_,g,rfl⟩ PySem.F.plainAttrs_list slot Du (λa q=>by cases q;exact⟨_,g,rfl⟩) h
def TR(S:ar F μ st s){kvs:List (V×V)}{Q:ai×List ai->ao->Prop}{id:String}(slot:Slot "dict" n id)(Du:typeOf (.builtin id)=pure (.type "method_descriptor"))(h0:st[l]? =some (.dict kvs ep))(h:Q (.builtin id,[.ref (μ.ρ l)]) s):
 aq F.m A (getMethod (.ref (μ.ρ l)) n pl) Q E s:=by
 obtain⟨es,n0,e,hd,r,nd,_⟩:=dictAt S h0;exact getMethod_builtin (rh hd) PySem.F.plainAttrs_dict slot Du (λa q=>by cases q;exact⟨_,hd,rfl⟩) h
def TS(O:Ok F)(S:ar F μ st s){fs:List (Str×V)}{f:Addr}{Q:ai×List ai->ao->Prop}(h0:st[l]? =some (.inst c fs))(hn:eV fs n=none)
 (hf:findIn F.K (.ref (F.ca c)) n=some (some (.ref f))) (ht:typeIn F.K (.ref f)=some (.type "function")) (h:Q (.ref f,[.ref (μ.ρ l)]) s):
 aq F.m A (getMethod (.ref (μ.ρ l)) n pl) Q E s:=by
 obtain⟨es,k,I,g,r,nd,hc⟩:=zC S h0;obtain⟨e1,e2⟩:=r.none hn;refine method_fn (O.K S) I (O.CZ c hc) (O.IL c hc) hf ht ?_ h;show(lookIn n (dictOf es k)).map _=_;rw[lookIn_dict];unfold SD;rw[e1,e2];rfl
end
end
variable{sl:Addr}
section
variable{vs:List ai}{i:Int}
section
variable{st:ah}
def aR.ur{xs:List V}{s':ao}{a:Addr}(h:cg xs st=some (v,U))(P:aR F μ st s U v Q)(S:ar F μ st s)(hv:aJ μ.ρ st.length s.heap xs vs)
 (k:∀b o,s.heap.get? b=some o->s'.heap.get? b=some o) (hn:s.heap.get? a=none) (g:s'.heap.get? a=some (listOf vs.toArray n)) (hg:s'.gens=s.gens) (ho:s'.os=s.os):Q (.ref a) s':=by
 obtain⟨c,rfl,rfl⟩:=newL_some h;obtain⟨S',T'⟩:=S.alloc (s':=s') (r:=a) (a:=a) (o:=.list xs) k hg ho hn (OR.zw hv g (cM.of_keeps k) c);refine P _ _ _ S' T' ?_;have:VR (μ.put st.length a a).ρ (st++[O.list xs]).length s'.heap (.ab st.length) (.ref ((μ.put st.length a a).ρ st.length)):=.ab (by simp);simpa[Mp.put]using this
def aR.newDict{kvs:List (V×V)}{es:List dc}{s':ao}{a:Addr}(P:aR F μ st s (st++[.dict kvs ep]) (.ab st.length) Q)(S:ar F μ st s)(hv:ER F.w μ.ρ st.length s.heap es kvs)
 (nd:fe kvs) (hc:kvs.length<=bH) (he:∀e,ep=some e->n=e)
 (k:∀b o,s.heap.get? b=some o->s'.heap.get? b=some o) (hn:s.heap.get? a=none) (g:s'.heap.get? a=some (dictOf es n)) (hg:s'.gens=s.gens) (ho:s'.os=s.os):Q (.ref a) s':=by
 obtain⟨S',T'⟩:=S.alloc (s':=s') (r:=a) (a:=a) (o:=.dict kvs ep) k hg ho hn ⟨if_pos rfl,es,n,g,hv.mono (λn hn=>Mp.t8 hn) (mM _) (cM.of_keeps k),nd,hc,he⟩;refine P _ _ _ S' T' ?_;have:VR (μ.put st.length a a).ρ (st++[O.dict kvs ep]).length s'.heap (.ab st.length) (.ref ((μ.put st.length a a).ρ st.length)):=.ab (by simp);simpa[Mp.put]using this
def pE(h:Heap):h.get? h.objs.size=none:=ui (bG _)
def aJ.slice{h:Heap}{l:List V}{lo hi:Option Int}(r:aJ ρ N h l vs):aJ ρ N h (pb l lo hi) (slicePick vs.toArray lo hi none).toList:=by rw[slicePick_plain];unfold pb;rw[List.drop_take,eI,r.length];exact(r.drop _).take _
def TU(S:ar F μ st s){xs:List V}{lo hi:Option Int}{vl vu:ai}(h0:st[l]? =some (.list xs))(hs:s.heap.IsSliceOf sl vl vu .none)(pl:IsPart vl lo)(pu:IsPart vu hi)
 (h:cg (pb xs lo hi) st=some (v,U)) (P:aR F μ st s U v Q):aq F.m A (jN (.ref (μ.ρ l)) (.ref sl)) Q E s:=by
 obtain⟨vs,L,r,e⟩:=fV S h0;refine wpAny_getItem_list_slice L hs pl pu .none (by simp) ?_ (by rw[eI,r.length];exact bx (lenOf S h0) iU);exact P.list (t:=s.toks) h S r.slice
def TV(S:ar F μ st s){xs:List V}{t:Tok}(h0:st[l]? =some (.list xs))(hs:s.heap.IsSliceOf sl .none .none (.int (-1) t))
 (h:cg xs.reverse st=some (v,U)) (P:aR F μ st s U v Q):aq F.m A (jN (.ref (μ.ρ l)) (.ref sl)) Q E s:=by
 obtain⟨vs,L,r,e⟩:=fV S h0;refine wpAny_getItem_list_slice L hs .none .none (.int (-1) t) (by simp) ?_ (by rw[eI,r.length];exact bx (lenOf S h0) iU);rw[PySem.W.krv_pick];exact P.list (t:=s.toks) h S r.reverse
def TX(S:ar F μ st s){xs:List V}{u:ai}(hc:xs.length<=bH)(x:VR μ.ρ st.length s.heap (.tup xs) u)(P:aR F μ st s st (.int xs.length) Q):aq F.m A (call (.builtin "len") [u]) Q E s:=by
 cases x with
 |tup ht hs=>refine PyProof.Rows.len_tuple ht (by rw[eI,hs.length];exact wc hc) ?_;rw[eI,hs.length];exact P.tok S (.int _ _)
def TY(S:ar F μ st s){xs:List V}(h0:st[l]? =some (.list xs))(P:aR F μ st s st (.int xs.length) Q):aq F.m A (call (.builtin "len") [.ref (μ.ρ l)]) Q E s:=by
 obtain⟨vs,L,r,e⟩:=fV S h0;have hz:(vs.toArray.size:Int)=xs.length:=by rw[eI,r.length]
 refine call_len_list L (by rw[hz];exact wc (lenOf S h0)) ?_;rw[hz];exact P.tok S (.int _ _)
def TZ{es:List dc}(hd:s.heap.get? d=some (dictOf es n))(ns:(d==lS)=false)(hf:(es.length:Int)<2 ^ 63)(h:∀t,Q (.int es.length t) {s with toks:=t+1}):
 aq F.m A (call (.builtin "len") [.ref d]) Q E s:=by
 have hT:=rh hd;refine Jv kind_len plain_len entry_len (args_len1 _) ?_;refine wB (m:=callSpecial? (.ref d) (aM "__len__")) (wpAny_callSpecial?_slot (name:=aM "__len__") hT T8
  (iW T8 hT PySem.F.entry_dict_len ?_ (PySem.F.args_dict_len_1 _)))
 .show aq _ _ (dictSize d >>= _) _ _ _;refine wB (wB (wpAny_dictEntries hd rfl (aF ?_)));refine wB (wpAny_pendingCount_other ns ?_);refine wpAny_ret_mkInt ?_;show aq _ _ (if((es.length:Nat):Int)>=2 ^ 63 then _ else _) _ _ _;rw[if_neg (wm.mpr hf)];exact wB (wpAny_mkInt (aF ⟨_,rfl,h _⟩))
def T9(O:Ok F)(S:ar F μ st s){kvs:List (V×V)}(h0:st[l]? =some (.dict kvs ep))(P:aR F μ st s st (.int kvs.length) Q):aq F.m A (call (.builtin "len") [.ref (μ.ρ l)]) Q E s:=by
 obtain⟨es,n,e,hd,r,nd,hc,_⟩:=dictAt S h0;have ns:=O.pz S (b9.mp h0).1;rw[<-e]at ns;refine TZ hd ns (r.length▸wc hc) λt=> ?_;rw[r.length];exact P.tok S (.int _ _)
def aJ.of_get{h:Heap}{l:List V}(e:vs.length=l.length)(h0:∀(j:Nat) u,vs[j]? =some u->∃v,l[j]? =some v/\VR ρ N h v u):aJ ρ N h l vs:=by
 induction l generalizing vs with
 |nil=>rewrite [Jb e];exact .nil
 |cons x l ih=>
  cases vs with
  |nil=>exact nomatch e
  |cons u vs=>exact .cons ((h0 0 u rfl).elim λv q=>(bF q.1)▸q.2) (ih (iS e) λj w hw=>h0 (j+1) w hw)
def Ua(S:ar F μ st s){xs:List V}(h0:st[l]? =some (.list xs))(h:cg xs st=some (v,U))(P:aR F μ st s U v Q):
 aq F.m A (call (.type "list") [.ref (μ.ρ l)]) Q E s:=by
 obtain⟨vs,⟨o,ho,hc,n,hd⟩,r,e⟩:=fV S h0;exact call_list_seq (hsz:=(by rw[eI,r.length];exact bx (lenOf S h0) iU)) _ (.inl rfl) ho hc hd λh' c' hk hD=>(P.ur (s':={s with heap:=h'}) h S r hk (pE _) hD rfl rfl)
def Jw(h:n<=bH):Builtin.Range.small 0 n 1=true:=small_one (by decide) (by decide) (k5 (by decide) (Jx n)) (ug (sa.mpr h) (by decide))
def Jy:∀{n:Nat},Builtin.Range.rangeSize 0 n 1=(n:Int)
 |0=>rangeSize_one 0 0
 |k+1=>(rangeSize_one 0 _).trans ((if_pos (Jz k)).trans (Int.sub_zero _))
def Ub(S:ar F μ st s){n:Nat}{u:ai}(R:cy A 0)(x:VR μ.ρ st.length s.heap (.cY n) u)(h:cg ((f' n).map λ(k:Nat)=>V.int k) st=some (v,U))(P:aR F μ st s U v Q):
 aq F.m A (call (.type "list") [u]) Q E s:=by
 cases x with
 |cY hc hr=>
  refine call_list_range R.handled hr ?_ ?_ (n:=n) ?_ λh' tk uu c' hk hD jo=> ?_
  .exact Jw hc
  .exact Jy
  .have:bH<=2 ^ 24:=by decide
   exact bq af av [.l af ak,.l ak av] rfl hc this
  .have hv:aJ μ.ρ st.length s.heap ((f' n).map λ(k:Nat)=>V.int k) uu.toList:=by
    obtain⟨h1,h2⟩:=jo;refine aJ.of_get (by simp[h1]) λj v hj=> ?_;obtain⟨t,rfl⟩:=h2 j v (by simpa using hj);have Uc:j<n:=by simpa[h1]using((b9.mp hj).1)
    refine⟨.int j,by simp[Uc], ?_⟩;have:(0:Int)+(j:Int)*1=j:=by rw[Int.mul_one,Int.zero_add]
    rw[this];exact .int _ _
   exact P.ur (s':={s with heap:=h',toks:=tk}) (vs:=uu.toList) (n:=c') h S hv hk (pE _) (by assumption) rfl rfl
def Ud(S:ar F μ st s){xs:List V}(h0:st[l]? =some (.list xs))(P:aR F μ st s st (.tup xs) Q):
 aq F.m A (call (.type "tuple") [.ref (μ.ρ l)]) Q E s:=by
 obtain⟨vs,L,r,e⟩:=fV S h0;refine call_tuple_list L (λh' hk=> ?_) (by rw[eI,r.length];exact bx (lenOf S h0) iU);have k:∀b o,s.heap.get? b=some o->(h'.push {cls:=.type "tuple",data:=.seq vs.toArray}).get? b=some o:=λb o e=>cS _ (hk b o e);exact P.keeps (s':={s with heap:=h'.push {cls:=.type "tuple",data:=.seq vs.toArray}}) S k rfl rfl (.tup IQ (r.mono (λY Y=>rfl) (bG _) (cM.of_keeps k)))
def Ue(S:ar F μ st s){xs:List V}{u:ai}(x:VR μ.ρ st.length s.heap (.tup xs) u)(P:aR F μ st s st (.tup xs) Q):
 aq F.m A (call (.type "tuple") [u]) Q E s:=by
 cases x with
 |tup ht hs=>exact call_tuple_same ht (P.tok (t:=s.toks) S (.tup ht hs))
def Ug(S:ar F μ st s){t:Tok}(P:aR F μ st s st (.int i) Q):aq F.m A (call (.type "int") [.int i t]) Q E s:=call_int_int (P.tok (t:=s.toks) S (.int _ _))
def Uh(S:ar F μ st s){t:Tok}(h0:0<=i)(hi:i<=bH)(P:aR F μ st s st (.cY i.toNat) Q):aq F.m A (call (.type "range") [.int i t]) Q E s:=by
 have e:=Ui h0;refine call_range_1 ?_;have k:∀b o,s.heap.get? b=some o->(s.heap.push {cls:=.type "range",data:=.fields #[.int 0 s.toks,.int i t,.int 1 (s.toks+1)]}).get? b=some o:=λb o e=>cS _ e;refine P.keeps (s':={s with heap:=s.heap.push {cls:=.type "range",data:=.fields #[.int 0 s.toks,.int i t,.int 1 (s.toks+1)]},toks:=s.toks+1+1}) S k rfl rfl (.cY (t:=s.toks) (u:=t) (v:=s.toks+1) (by lia) ?_);rw[e];exact dX _ rfl
def Uj(S:ar F μ st s){j:Int}{u:Tok}(R:cy A 0)(P:aR F μ st s st (.int (if j<i then j else i)) Q):aq F.m A (call (.builtin "min") [.int i t,.int j u]) Q E s:=by
 refine min_two_ints R.handled λh' tk k=> ?_;split
 .rename_i h;rw[if_pos h]at P;exact P.keeps (s':={s with heap:=h',toks:=tk}) S k rfl rfl (.int _ _)
 .rename_i h;rw[if_neg h]at P;exact P.keeps (s':={s with heap:=h',toks:=tk}) S k rfl rfl (.int _ _)
def Uk(S:ar F μ st s){j:Int}{u:Tok}(R:cy A 0)(P:aR F μ st s st (.int (if i<j then j else i)) Q):aq F.m A (call (.builtin "max") [.int i t,.int j u]) Q E s:=by
 refine max_two_ints R.handled λh' tk k=> ?_;split
 .rename_i h;rw[if_pos h]at P;exact P.keeps (s':={s with heap:=h',toks:=tk}) S k rfl rfl (.int _ _)
 .rename_i h;rw[if_neg h]at P;exact P.keeps (s':={s with heap:=h',toks:=tk}) S k rfl rfl (.int _ _)
end
end
section
def insI_perm(x:Int)(l:List Int):(insI x l).Perm (x::l):=by
 induction l with
 |nil=>exact .refl _
 |cons y r ih=>
  rw[vS];split
  .exact .refl _
  .exact((ih).cons y).trans (.swap x y r)
def sortI_perm(l:List Int):(sortI l).Perm l:=by
 induction l with
 |nil=>exact .refl _
 |cons x r ih=>exact(insI_perm x _).trans ((ih).cons x)
def Ul(x:Int){l:List Int}:l.Pairwise (·<=·)->(insI x l).Pairwise (·<=·):=by
 induction l with
 |nil=>intro _;exact uv.mpr ⟨λY h=>(nomatch h),.nil⟩
 |cons y r ih=>
  intro h;rw[vS];split
  .rename_i hx;rw[uv];refine⟨λz hz=> ?_,h⟩;rcases bU.mp hz with rfl|hz
   .exact hx
   .exact k5 hx ((uv.mp h).1 z hz)
  .rename_i hx;rw[uv];refine⟨λz hz=> ?_,ih (uv.mp h).2⟩;rcases bU.mp ((insI_perm x r).mem_iff.mp hz)with rfl|hz
   .exact wo (wm.mp hx)
   .exact(uv.mp h).1 z hz
def Um(l:List Int):(sortI l).Pairwise (·<=·):=by
 induction l with
 |nil=>exact .nil
 |cons x r ih=>exact Ul x (ih)
def Un{a l:List Int}(hp:a.Perm l)(hs:a.Pairwise (·<=·)):a=sortI l:=ksm_same (hp.trans (sortI_perm l).symm) hs (Um l)
variable{is:List Int}
section
variable{st:ah}
def aJ.JA{h:Heap}{vs:List ai}(r:IntsAre vs is):aJ ρ N h (is.map .int) vs:=by
 induction r with
 |nil=>exact .nil
 |cons i t _ ih=>exact .cons (.int i t) ih
def Uo(S:ar F μ st s){xs:List V}(R:cy A 0)(h0:st[l]? =some (.list xs))(hi:dZ xs=some is)(P:aR F μ st s st (.int is.sum) Q):
 aq F.m A (call (.builtin "sum") [.ref (μ.ρ l)]) Q E s:=by
 obtain⟨vs,L,r,e⟩:=fV S h0;have I:=r.ints hi;obtain⟨ws,hw⟩:=I.allInts.items;rw[hw]at L;refine PySem.sum_intListG R.handled L λh' tk t' k=> ?_;have e2:preSum (numAt ws) ws.size=is.sum:=by have h1:=nums_intItems ws;rw[<-hw,I.numsOf]at h1;rw[preSum_eq,zJ (by simp)];rw[h1]
 rw[e2];exact P.keeps (s':={s with heap:=h',toks:=tk}) S k rfl rfl (.int _ _)
def Uq(S:ar F μ st s){xs:List V}(h0:st[l]? =some (.list xs))(hi:dZ xs=some is)(lX:xs.length<64)
 (h:cg ((sortI is).map .int) st=some (v,U)) (P:aR F μ st s U v Q):aq F.m A (call (.builtin "sorted") [.ref (μ.ρ l)]) Q E s:=by
 obtain⟨vs,L,r,e⟩:=fV S h0;refine sorted_ints L (r.ints hi) (r.length▸lX) λout Ur h1 h2 h3=> ?_;obtain⟨k,hk⟩:=sortedAll_at s.heap vs out;rw[<-(Un h2 h3)]at h;refine P.ur (s':={s with heap:=sortedAll s.heap vs out}) (vs:=out.toList) (n:=k) h S (aJ.JA h1) (λY Y=>sortedAll_old) (ui (mM _)) ?_ rfl rfl;simpa using hk
def ER.Us{h:Heap}{es:List dc}{ks:List (Int×ai)}{kvs:List (V×V)}(r:Pairs (cV F.prog F.w) es ks)(hk:∀e∈es,∃k,(cV F.prog F.w).is k e.key=true/\e.hash=(cV F.prog F.w).hash k)
 (hm:ks.map (λp=>V.int p.1)=kvs.map (·.1)) (hv:∀(j:Nat) (p:V×V) (q:Int×ai),kvs[j]? =some p->ks[j]? =some q->VR ρ N h p.2 q.2):ER F.w ρ N h es kvs:=by
 induction r generalizing kvs with
 |nil=>
  cases kvs with
  |nil=>exact .nil
  |cons=>exact nomatch hm
 | @cons e kv es ks h1 h2 h3 ih=>
  obtain⟨k,u⟩:=kv;cases kvs with
  |nil=>exact nomatch hm
  |cons p kvs=>
   obtain⟨a,b⟩:=p;obtain⟨Dv,uw⟩:=zp hm;refine(hk e (dz)).elim λk' fF=> ?_;refine(Dw h1).elim λt et=> ?_;obtain⟨hs,key,val⟩:=e;have et:key= .int k t:=et;have hh:hs=iu F.w (.int k):=((Dw (et▸fF.1:Jn k' (zK k t)=true)).elim λt' e=>(Value.int.inj e).1.symm)▸fF.2;have Dv:V.int k=a:=Dv;have h2:val=u:=h2;rw[et,hh,h2,<-Dv];exact .cons (.int k t) (hv 0 _ _ rfl rfl) (ih (λe he=>hk e (dM _ he)) uw λj p q hp hq=>hv (j+1) p q hp hq)
def Ut(O:Ok F)(S:ar F μ st s){kvs:List (V×V)}(h0:st[l]? =some (.dict kvs ep))(hk:kvs.all (λp=>p.1.isInt)=true)
 (P:aR F μ st s (st++[.dict kvs none]) (.ab st.length) Q):aq F.m A (call (.type "dict") [.ref (μ.ρ l)]) Q E s:=by
 obtain⟨es,n,e,hd,r,nd,hc,_⟩:=dictAt S h0;obtain⟨ks,D,m,hv,_⟩:=zr S h0 hk;have ns:=O.pz S (b9.mp h0).1;rw[<-e]at ns;refine kt_call_dict ns D ((by have:=congrArg n7 m;simpa using this)▸bx hc iU) λh' D' B=> ?_;obtain⟨⟨cls,dd,data,sl⟩,iy,dY,ho,n9,zL,Uu,wy,gW⟩:=D';obtain⟨c1,c2,c3⟩:=n9;simp only at c1 c2 c3 zL;subst c1 c2 c3 zL;exact P.newDict (s':={s with heap:=h'}) (n:=dY) S (ER.Us wy (λe he=>Uu e (by simpa using he)) m hv) nd hc (λe q=>by cases q) (λb o e=>by rw[B.2 b (eN (eQ e))];exact cS _ e) (pE _) (by assumption) rfl rfl
end
end
variable{aI:Mp}{pe:Env}{ax:aw}{mb mg:Str→Option ai}{P:eG}{pos:Pos}
section
abbrev iz(o:Obj):Prop:=(∃es n,o.data= .dict es n)\/(∃v,o.data= .cell v)\/∃T,o.cls= .type T/\T≠"tuple"/\T≠"range"/\o.data≠.plain
def iz.notTuple(h:iz o)(hc:o.cls= .type "tuple")(hd:∃n,o.data= .seq items n):False:=by
 obtain⟨n,hd⟩:=hd;rcases h with⟨es,k,e⟩|⟨v,e⟩|⟨T,e,h1,_,_⟩
 .rw[e]at hd;cases hd
 .rw[e]at hd;cases hd
 .rw[e]at hc;exact h1 (pq hc)
def iz.Uv(h:iz o)(hc:o.cls= .type "range")(hd:o.data= .fields vs):False:=by
 rcases h with⟨es,k,e⟩|⟨v,e⟩|⟨T,e,_,h1,_⟩
 .rw[e]at hd;cases hd
 .rw[e]at hd;cases hd
 .rw[e]at hc;exact h1 (pq hc)
def iz.Uw(h:iz o)(hd:o.data= .plain):False:=by
 rcases h with⟨es,k,e⟩|⟨v,e⟩|⟨T,_,_,_,e⟩
 .rw[e]at hd;cases hd
 .rw[e]at hd;cases hd
 .exact e hd
def Dx{h:Heap}(hc:∀a,X a->∃o,h.get? a=some o/\iz o)(k:∀b ob,¬X b->h.get? b=some ob->h'.get? b=some ob):cM h h':=by
 refine⟨λb items q=>q.imp λob q=>⟨k b ob (λhb=> ?_) q.1,q.2⟩,λb n t u v hr=>k b _ (λhb=> ?_) hr⟩
 .obtain⟨o,ho,iA⟩:=hc b hb;obtain⟨mK,n9,r⟩:=q;rw[ho]at mK;cases mK;exact iA.notTuple n9 r
 .obtain⟨o,ho,iA⟩:=hc b hb;have vZ:=ho.symm.trans hr;cases vZ;exact iA.Uv rfl rfl
variable{n:Str}
section
variable{st:ah}
def ar.wz(S:ar F μ st s)(hX:∀a,X a->F.h₀.get? a=none)(gc:∀a,X a->∀l,l<st.length->μ.σ l≠a)(hc:∀a,X a->∃o,s.heap.get? a=some o/\iz o)
 (k:∀b ob,¬X b->s.heap.get? b=some ob->s'.heap.get? b=some ob) (hg:s'.gens=s.gens) (lO:s'.os=s.os):ar F μ st s':=by
 refine⟨λb ob e=>k b ob (λhb=>by rw[hX b hb]at e;cases e) (S.base b ob e),S.out,S.inj,λl ob e=> ?_,hg.trans S.gens,lO.trans S.os,S.fz.imp λxs q=>⟨q.1,k _ _ (λhb=>gc _ hb 0 S.t6 rfl) q.2⟩⟩;have hl:=(b9.mp e).1;refine(S.obj l ob e).mono hl (λY Y=>rfl) (bG _) (Dx hc k) (λY g=>k _ _ (λhb=>gc _ hb l hl rfl) g) λc fs q Y g=>k _ _ (λhb=> ?_) g;subst q;obtain⟨es,n,g1,_⟩:=S.obj l _ e;obtain⟨o,ho,iA⟩:=hc _ hb;rw[ho]at g1;cases g1;exact iA.Uw rfl
def Step.wz{h:Heap}(hc:∀a,X a->∃o,h.get? a=some o/\iz o)(k:∀b ob,¬X b->h.get? b=some ob->h'.get? b=some ob)(hx:∀a,X a->∃o,h'.get? a=some o):Step X μ N h μ N h':=
 ⟨bG _,λY Y=>rfl,λY Y=>rfl,λl h1 h2=>absurd h2 (fT.mpr h1),λb ob e hb Y=>k b ob hb e,λb ob e=>by
  by_cases hb:X b
  .exact hx b hb
  .exact⟨ob,k b ob hb e⟩,Dx hc k⟩
def ar.off(S:ar F μ st s)(ha:F.h₀.get? a=none)(gc:∀l,l<st.length->μ.σ l≠a)(ho:s.heap.get? a=some o)(hc:iz o)
 (k:∀b ob,b≠a->s.heap.get? b=some ob->s'.heap.get? b=some ob) (hx:∃o',s'.heap.get? a=some o') (hg:s'.gens=s.gens) (lO:s'.os=s.os):
 ar F μ st s'/\Step (λb=>b=a) μ st.length s.heap μ st.length s'.heap:=
 have jk:∀b,b=a->∃o,s.heap.get? b=some o/\iz o:=λb q=>⟨o,q▸ho,hc⟩
 ⟨S.wz (X:=λb=>b=a) (λb q=>q▸ha) (λb q l hl e=>gc l hl (e.trans q)) jk k hg lO,.wz (X:=λb=>b=a) jk k λb q=>q▸hx⟩
def Dy{h:Heap}{m:Str->Option ai}(n:h.Ns a m):∃o,h.get? a=some o/\iz o:=n.imp λY h=>h.elim λY h=>h.elim λY h=>⟨h.1,.inl ⟨_,_,h.2.1⟩⟩
def JB{h:Heap}{v:Option ai}(n:h.IsCell a v):∃o,h.get? a=some o/\iz o:=n.imp λY h=>⟨h.1,.inr (.inl ⟨_,h.2⟩)⟩
structure iB(aa:aO)(pe:Env):Prop where
 kind:pe.scope.kind= .function
 glob:pe.globals=lY
 bi:pe.builtins=builtinsNs
 ab:∀n,Internal.kind aa n=some .local->pe.kindOf n=some .local
 gl:∀n,Internal.kind aa n=some .globalImplicit->pe.kindOf n=some .globalImplicit
 cell:∀n,Internal.kind aa n=some .cell->pe.kindOf n=some .cell
 free:∀n,Internal.kind aa n=some .free->pe.kindOf n=some .free\/pe.kindOf n=some .cell
abbrev held(aa:aO)(n:Str):Prop:=kind aa n=some .cell\/kind aa n=some .free
structure bh(F:Fix)(μ:Mp)(N:Nat)(h:Heap)(aa:aO)(pe:Env):Prop where
 ns:∃m,h.Ns pe.locals m/\∀n v,kind aa n=some .local->cF aa.aj n=some v->∃u,m n=some u/\VR μ.ρ N h v u
 cell:∀n,held aa n->∃c x,pe.cells.lookup n=some c/\h.IsCell c x/\∀v,cF aa.aj n=some v->∃u,x=some u/\VR μ.ρ N h v u
 out:F.h₀.get? pe.locals=none
 sm:∀n c,pe.cells.lookup n=some c->F.h₀.get? c=none
 σ:∀l,l<N->μ.σ l≠pe.locals
 rj:∀l n c,l<N->pe.cells.lookup n=some c->μ.σ l≠c
 ne:∀n c,pe.cells.lookup n=some c->c≠pe.locals
 inj:∀n n' c,pe.cells.lookup n=some c->pe.cells.lookup n'=some c->n=n'
 has:∀n c,pe.cells.lookup n=some c->∃o,h.get? c=some o
abbrev fX(aa:aO)(pe:Env):Addr->Prop:=λb=>b=pe.locals\/∃n,kind aa n=some .cell/\pe.cells.lookup n=some b
def bh.step{h:Heap}{aa:aO}(f:bh F μ N h aa pe)(x:Step X μ N h aI N' h')(hL:¬X pe.locals)(hC:∀n c,pe.cells.lookup n=some c->¬X c):bh F aI N' h' aa pe:=by
 obtain⟨m,⟨o,es,ep,ho,hd,hk,hf⟩,hv⟩:=f.ns;refine⟨⟨m,⟨o,es,ep,(x.keep _ _ ho hL λl hl e=>f.σ l hl e.symm),hd,hk,hf⟩,λn v h1 h2=>(hv n v h1 h2).imp λY h=>⟨h.1,x.VR h.2⟩⟩,λn hn=> ?_,f.out,f.sm,λl hl=> ?_,λl n c hl hc=> ?_,f.ne,f.inj,λn c hc=> ?_⟩
 .obtain⟨c,v,hc,⟨oc,pF,pG⟩,hv⟩:=f.cell n hn;exact⟨c,v,hc,⟨oc,x.keep _ _ pF (hC n c hc) (λl hl e=>f.rj l n c hl hc e.symm),pG⟩,λw hw=>(hv w hw).imp λY h=>⟨h.1,x.VR h.2⟩⟩
 .by_cases bY:l<N
  .rw[x.σ l bY];exact f.σ l bY
  .intro e;have:=x.new l (aG af ak [.l af ak] rfl (fT.mp bY)) hl;rw[e,ho]at this;cases this
 .by_cases bY:l<N
  .rw[x.σ l bY];exact f.rj l n c bY hc
  .intro e;have:=x.new l (aG af ak [.l af ak] rfl (fT.mp bY)) hl;obtain⟨o',fY⟩:=f.has n c hc;rw[e,fY]at this;cases this
 .obtain⟨o',fY⟩:=f.has n c hc;exact x.mJ _ _ fY
def bh.cq{h:Heap}{aa:aO}(f:bh F μ N h aa pe)(x:Step cq μ N h aI N' h'):bh F aI N' h' aa pe:=f.step x id λY Y Y=>id
private def ux:∀{aj ax:aw},jg aj n v=some ax->∀m,cF ax m=if m=n then some v else cF aj m:=by
 intro l0;induction l0 with
 |nil=>intro _ h _;cases h
 |cons p r ih=>
  intro ax h m;rw[yV]at h;split at h
  .rename_i hp;cases h;rw[pf,pf];subst hp;by_cases e:p.1=m
   .rw[if_pos e,if_pos e.symm]
   .rw[if_neg e,if_neg (b0 e),if_neg e]
  .rename_i hp;obtain⟨q,hq,rfl⟩:=gV.mp h;rw[pf,pf,ih hq];by_cases e:p.1=m
   .subst e;rw[if_pos rfl,if_neg hp,if_pos rfl]
   .rw[if_neg e,if_neg e]
def JC{aa:aO}{Q:Unit->ao->Prop}(S:ar F μ st s)(fs:iB aa pe)(fd:bh F μ st.length s.heap aa pe)(hk:kind aa n=some .local\/kind aa n=some .cell)
 (hv:jg aa.aj n v=some ax) (x:VR μ.ρ st.length s.heap v u)
 (P:∀s',ar F μ st s'->Step (fX aa pe) μ st.length s.heap μ st.length s'.heap->bh F μ st.length s'.heap {aa with aj:=ax} pe->Q () s'):
 aq F.m A (storeName pe n u) Q E s:=by
 have so:=ux hv;clear hv;rcases hk with hk|hk
 .obtain⟨m,hn,hm⟩:=fd.ns;obtain⟨o,ho,iA⟩:=Dy hn;refine wpAny_storeName_local (fs.ab n hk) hn (λh' q9 hs=> ?_) (by rw[fs.kind];rfl);have k:∀b ob,b≠pe.locals->s.heap.get? b=some ob->h'.get? b=some ob:=λb ob hb e=>(hs.2 b hb).trans e;obtain⟨S',T'⟩:=S.off (s':={s with heap:=h',toks:=s.toks+1}) fd.out fd.σ ho iA k ((Dy q9).imp λY h=>h.1) rfl rfl;refine P _ S' (T'.weaken λb Y Y e=>.inl e) ⟨⟨_,q9,λn' v' h1 h2=> ?_⟩,λn' Dz=> ?_,fd.out,fd.sm,fd.σ,fd.rj,fd.ne,fd.inj,λn' c hc=> ?_⟩
  .have lZ:=h2;clear q9;rw[so]at lZ;by_cases e:n'=n
   .subst e;simp only[if_true]at lZ⊢;cases lZ;exact⟨u,rfl,T'.VR x⟩
   .simp only[e]at lZ⊢;obtain⟨w,h3,h4⟩:=hm n' v' h1 lZ;exact⟨w,h3,T'.VR h4⟩
  .have rk:held aa n':=Dz;clear q9;obtain⟨c,y,hc,⟨oc,pF,pG⟩,pH⟩:=fd.cell n' rk;refine⟨c,y,hc,⟨oc,k _ _ (fd.ne n' c hc) pF,pG⟩,λw hw=> ?_⟩;have rm:=hw;rw[so,if_neg (by rintro rfl;rcases rk with q|q<;>rw[hk]at q<;>cases q)]at rm;obtain⟨u',h3,h4⟩:=pH w rm;exact⟨u',h3,T'.VR h4⟩
  .obtain⟨o',fY⟩:=fd.has n' c hc;exact T'.mJ _ _ fY
 .obtain⟨c,y,hc,pI,_⟩:=fd.cell n (.inl hk);obtain⟨o,ho,iA⟩:=JB pI;refine wpAny_storeName_cell fs.kind (fs.cell n hk) hc pI λh' JD hs=> ?_;have k:∀b ob,b≠c->s.heap.get? b=some ob->h'.get? b=some ob:=λb ob hb e=>(hs.2 b hb).trans e;obtain⟨S',T'⟩:=S.off (s':={s with heap:=h'}) (fd.sm n c hc) (λl hl=>fd.rj l n c hl hc) ho iA k ((JB JD).imp λY h=>h.1) rfl rfl;obtain⟨m,⟨ol,es,ep,uy,rn,zM,cW⟩,hm⟩:=fd.ns;refine P _ S' (T'.weaken λb Y Y e=>.inr ⟨n,hk,e▸hc⟩) ⟨⟨m,⟨ol,es,ep,k _ _ (fd.ne n c hc).symm uy,rn,zM,cW⟩,λn' v' h1 h2=> ?_⟩,λn' Dz=> ?_,fd.out,fd.sm,fd.σ,fd.rj,fd.ne,fd.inj,λn' c hc=> ?_⟩
  .have DA:kind aa n'=some .local:=h1;have lZ:cF ax n'=some v':=h2;rw[so,if_neg (by rintro rfl;rw[hk]at DA;cases DA)]at lZ;obtain⟨w,h3,h4⟩:=hm n' v' DA lZ;exact⟨w,h3,T'.VR h4⟩
  .clear hk;by_cases e:n'=n
   .subst e;refine⟨c,_,hc,JD,λw hw=> ?_⟩;have rm:cF ax n'=some w:=hw;rw[so,if_pos rfl]at rm;cases rm;exact⟨u,rfl,T'.VR x⟩
   .obtain⟨c',y',jk,⟨oc,pF,pG⟩,pH⟩:=fd.cell n' Dz;refine⟨c',y',jk,⟨oc,k _ _ (λq=>e (fd.inj n' n c (q▸jk) hc)) pF,pG⟩,λw hw=> ?_⟩;have rm:cF ax n'=some w:=hw;rw[so,if_neg e]at rm;obtain⟨u',h3,h4⟩:=pH w rm;exact⟨u',h3,T'.VR h4⟩
  .obtain⟨o',fY⟩:=fd.has n' c hc;exact T'.mJ _ _ fY
abbrev ro:BI->ai
 |.len=>.builtin "len"|.list=>.type "list"|.sorted=>.builtin "sorted"|.tuple=>.type "tuple"|.dict=>.type "dict"|.int=>.type "int"|.sum=>.builtin "sum"
 |.min=>.builtin "min"|.max=>.builtin "max"|.range=>.type "range"|.zip=>.type "zip"|.set=>.type "set"|.enumerate=>.type "enumerate"
structure JE(F:Fix)(k:FK)(fd:FD):Prop where
 at_:∃name qual params dV kV doc pm an pJ ct oc od JF,F.h₀.get? (F.fa k)=some ⟨oc,od,.func (fnOf name qual params fd.body fd.scope dV kV doc pm an pJ ct),JF⟩/\F.h₀.CodeRec pJ qual/\∀vals:List ai,vals.length=fd.params.length->bindArgs (fnOf name qual params fd.body fd.scope dV kV doc pm an pJ ct) ⟨vals,[]⟩=pure (fd.params.zip vals)
 keep:keepIn F.K (.ref (F.fa k))=true
 typ:typeIn F.K (.ref (F.fa k))=some (.type "function")
 kind:fd.scope.kind= .function
 co:fd.scope.isCoroutine=false
 gen:fd.scope.isGenerator=false
 par:∀p∈fd.params,fd.scope.names.lookup p=some .local\/fd.scope.names.lookup p=some .cell
 Ux:∀p∈fd.scope.names,p.2≠.free
 nodup:(fd.scope.names.map (·.1)).Nodup
structure mU(F:Fix)(mg mb:Str->Option ai):Prop where
 g:F.h₀.Ns lY mg
 b:F.h₀.Ns builtinsNs mb
 const:∀n v,qL n F.P.consts=some v->∃u,mg n=some u/\VR (λY=>0) 0 F.h₀ v u
 func:∀n fd,ij (aM "",n) F.P.tab=some fd->mg n=some (.ref (F.fa (aM "",n)))
 cls:∀c,dR c F.P.classes=true->mg c=some (.ref (F.ca c))/\makesIn F.K (F.ca c)=true/\keepIn F.K (.ref (F.ca c))=true
 bi:∀n b,gF n=some b->mg n=none/\mb n=some (ro b)
 fn:∀k fd,ij k F.P.tab=some fd->JE F k fd
 DB:∀c n fd,dR c F.P.classes=true->ij (c,n) F.P.tab=some fd->findIn F.K (.ref (F.ca c)) n=some (some (.ref (F.fa (c,n))))
def VR.Uy(x:VR (λY=>0) 0 F.h₀ v u)(S:ar F μ st s):VR ρ N s.heap v u:=x.mono (λn hn=>absurd hn (wA n)) (dJ _) (cM.of_keeps S.base)
def DC{mg:Str->Option ai}(G:mU F mg mb){aa:aO}(S:ar F μ st s)(fs:iB aa pe)(hk:kind aa n=some .globalImplicit)(h:mg n=some u)(q:Q u s):
 aq F.m A (loadName pe n) Q E s:=by
 rw[loadName_read fs.kind (fs.gl n hk)];refine Calls.loadGlobal_global (mg:=mg) ?_ h q;rw[fs.glob];exact G.g.keeps S.base
def zN{mg mb:Str->Option ai}(G:mU F mg mb){aa:aO}{b:BI}(S:ar F μ st s)(fs:iB aa pe)(hk:kind aa n=some .globalImplicit)(h:gF n=some b)(q:Q (ro b) s):
 aq F.m A (loadName pe n) Q E s:=by
 rw[loadName_read fs.kind (fs.gl n hk)];obtain⟨h1,h2⟩:=G.bi n b h;refine Calls.loadGlobal_builtin (mg:=mg) (mb:=mb) ?_ h1 ?_ h2 q
 .rw[fs.glob];exact G.g.keeps S.base
 .rw[fs.bi];exact G.b.keeps S.base
def zO(h:isName x n=false):n≠aM x:=by simpa[isName]using h
def Uz(G:mU F mg mb){I:aT}(hP:P=F.P){aa:aO}(S:ar F μ st s)(fs:iB aa pe)(fd:bh F μ st.length s.heap aa pe)
 (h:lK P I aa (.Name n pos) st=some (v,U)) (q:aR F μ st s U v Q):aq F.m A (eval (.Name n pos) pe) Q E s:=by
 subst hP;obtain⟨hd,h⟩:=if_some (show(if¬(isName "__debug__" n||isName "__classdict__" n)=true then(match kind aa n with
  |some .globalImplicit=>op (qL n F.P.consts)
  |some .local=>op (cF aa.aj n)
  |some .cell=>op (cF aa.aj n)
  |some .free=>op (cF aa.aj n)
  |_=>er)else er) st=some (v,U)from h)
 rw[wC,not_or,UA,UA]at hd;refine wpAny_Name ?_ (beq_eq_false_iff_ne.mpr (zO hd.1));cases hk:kind aa n with
 |none=>rw[hk]at h;cases h
 |some kd=>
 rw[hk]at h;cases kd with
 |globalImplicit=>
  obtain⟨e,rfl⟩:=op_some h;obtain⟨u,hu,x⟩:=G.const n v e;exact DC G S fs hk hu (q.tok (t:=s.toks) S (x.Uy S))
 |«local»=>
  obtain⟨e,rfl⟩:=op_some h;obtain⟨m,hn,hm⟩:=fd.ns;obtain⟨u,hu,x⟩:=hm n v hk e;exact wpAny_loadName_local fs.kind (fs.ab n hk) hn hu (q.tok (t:=s.toks) S x)
 |cell=>
  obtain⟨e,rfl⟩:=op_some h;obtain⟨c,y,hc,pI,hv⟩:=fd.cell n (.inl hk);obtain⟨u,rfl,x⟩:=hv v e;exact wpAny_loadName_cell fs.kind (fs.cell n hk) hc pI (q.tok (t:=s.toks) S x)
 |free=>
  obtain⟨e,rfl⟩:=op_some h;obtain⟨c,y,hc,pI,hv⟩:=fd.cell n (.inr hk);obtain⟨u,rfl,x⟩:=hv v e;rcases fs.free n hk with fF|fF
  .exact wpAny_loadName_free fs.kind fF hc pI (q.tok (t:=s.toks) S x) (beq_eq_false_iff_ne.mpr (zO hd.2))
  .exact wpAny_loadName_cell fs.kind fF hc pI (q.tok (t:=s.toks) S x)
 |_=>cases h
end
end
@[reducible]abbrev pw:eH:=Rw
abbrev q0:eH:=view pw [23]
abbrev row:RowW:=(uz.row).toRowW
def ops:opening pw=plainProg pw.main.scope.names:=rfl
def UB:∀s,fenceModules? pw s=some s:=λY=>rfl
def UC:∀w:bQ,(fencedOpening treeTable pw w 7170).map (λs=>(s.heap,s.gens,s.drawn,s.toks))=some (jQ w.params,zP [],boot_drawn,boot_toks):=boot_open ops rfl UB
variable{p:eH}
abbrev DD(DE:gd->Thread->Option (gd×Thread))(ok:Thread->Bool)(n:Nat):gd->Thread->Option gd:=
 Nat.rec (λY Y=>none) (λY ih s t=>match through t with
  |true=>some s
  |false=>match ok t with
   |false=>none
   |true=>match DE s t with
    |some (s',t')=>ih s' t'
    |none=>none) n
def UD{tb:String->Option Builtin}{wD:Nat}{ann:Option ai}(n:Nat):∀{s s':gd} {t:Thread},DD (stepT (denote tb) p w) (stepOk wD ann) n s t=some s'->topRun tb p w wD ann n s.abs t=some s'.abs:=by
 induction n with
 |zero=>intro _ _ _ h;cases h
 |succ n ih=>
  intro s s' t h;replace h:(match through t with
   |true=>some s
   |false=>match stepOk wD ann t with
    |false=>none
    |true=>match stepT (denote tb) p w s t with
     |some (s',t')=>DD (stepT (denote tb) p w) (stepOk wD ann) n s' t'
     |none=>none)=some s':=h
  unfold topRun;cases ht:through t with
  |true=>rw[ht]at h;exact congrArg (λx=>some (SharedT.abs x)) (bF h)
  |false=>
   rw[ht]at h;cases hk:stepOk wD ann t with
   |false=>rw[hk]at h;cases h
   |true=>
    rw[hk]at h;cases hs:stepT (denote tb) p w s t with
    |none=>rw[hs]at h;cases h
    |some r=>rw[hs]at h;rw[stepT_spec hs];exact ih h
abbrev grow(l:List Obj):BT->Nat->BT:=o7 (λt Y=>t) (λo Y ih t n=>ih (t.ins n o) (n+1)) l
abbrev t0(w:bQ)(os:OsState):gd:=⟨grow (jQ w.params).objs.toList .nil 0,(jQ w.params).objs.size,(jQ w.params).life,zP [],boot_drawn,boot_toks,os⟩
abbrev DF(n:Nat)(w:bQ)(os:OsState):Option gd:=DD (PySem.W.Fast.tw10156331382660048174 (PySem.W.Fast.tw11892475500146522536 PySem.W.Fast.tw14364793385576792824) pw w)
 (PySem.W.Fast.tw6613529449190102663 (jQ w.params).objs.size ((jQ w.params).nsMap lY "__annotations__")) n (t0 w os) (topStub pw)
abbrev JG(n0:Nat)(s:gd):Frag:=(f' (s.n-n0)).filterMap λi=>((s.tree.get (n0+i)).bind alive).map λo=>(n0+i,o)
abbrev UE(v:ai):Option Addr:=match v with|.ref a=>some a|_=>none
abbrev refOf(v:Option ai):Option Addr:=v.bind UE
abbrev UG(d:Data):Option FuncData:=match d with|.func f=>some f|_=>none
abbrev UH(d:Data):Option (Array ai×Nat):=match d with|.seq vs n=>some (vs,n)|_=>none
abbrev JH(v:ai)(s:String):Bool:=match v with|.type t=>decide (t=s)|_=>false
abbrev uA(K:Frag)(a:Addr):Option FuncData:=(K.lookup a).bind λo=>UG o.data
abbrev zQ(K:Frag)(a:Addr):Option (Array ai):=(K.lookup a).bind λo=>if JH o.cls "tuple"=true then(UH o.data).map (·.1)else none
abbrev uB(m:Str->Option ai)(c:Str):Option Addr:=refOf (m c)
abbrev sq(K:Frag)(m:Str->Option ai)(k:FK):Option Addr:=match k.1.cps.toList with
 |[]=>refOf (m k.2)
 |_=>(uB m k.1).bind λa=>refOf ((findIn K (.ref a) k.2).getD none)
abbrev wF(K:Frag)(m:Str->Option ai)(c:Str):Bool:=match uB m c with
 |some a=>hasDictIn K a && plainOver K a && plainGet K a "" && findIn K (.ref a) "__setattr__"==some (some (.builtin "object.__setattr__")) && aY.attrs.all (λn=>findIn K (.ref a) n==some none) && makesIn K a && keepIn K (.ref a)
 |none=>false
abbrev zR(K:Frag)(m:Str->Option ai)(k:FK):Bool:=match sq K m k with
 |some a=>keepIn K (.ref a) && typeIn K (.ref a)==some (.type "function") && (uA K a).any λfd=>codeIn K fd.code fd.qualname
 |none=>false
abbrev UI(m b:Str->Option ai)(p:String×BI):Bool:=(m (aM p.1)).isNone && b (aM p.1)==some (ro p.2)
mutual
abbrev zS(K:Frag):V->ai->Bool
 |.int i,u=>(match u with|.int j _=>decide (i=j)|_=>false)
 |.str x,u=>(match u with|.str y _=>decide (x=y)|_=>false)
 |.tup l,u=>(match u with
  |.ref a=>(match zQ K a with|some vs=>zT K l vs.toList|none=>false)
  |_=>false)
 |_,_=>false
abbrev zT(K:Frag):List V->List ai->Bool
 |[],us=>us.isEmpty
 |v::l,us=>(match us with|[]=>false|u::us=>zS K v u && zT K l us)
end
abbrev DG(K:Frag)(m:Str->Option ai)(p:Str×V):Bool:=match m p.1 with|some u=>zS K p.2 u|none=>false
abbrev wG(K:Frag)(m:Str->Option ai)(k:FK):Option FuncData:=(sq K m k).bind (uA K)
abbrev jq(w:bQ)(s:gd):Frag:=JG (jQ w.params).objs.size s
abbrev gH(s:gd):Str->Option ai:=s.abs.heap.nsMap lY
abbrev DH(s:gd):Str->Option ai:=s.abs.heap.nsMap builtinsNs
abbrev JI(w:bQ)(s:gd):Bool:=staticsOk (importedModules pw.main.body) (jQ w.params) s.abs.heap && namesBound pw s.abs.heap && gensDone s.abs && laidKept (jQ w.params) s.abs.heap
abbrev DI(w:bQ)(s:gd):Bool:=(λK m b=>aY.classes.all (wF K m) && aY.tab.all (λp=>zR K m p.1) && Ik.all (UI m b) && aY.consts.all (DG K m)) (jq w s) (gH s) (DH s) && (s.abs.heap.get? lS).isSome && s.abs.heap.noLimitOk && s.abs.heap.isNs lY && s.abs.heap.isNs builtinsNs
abbrev viewOf(fd:FuncData):FuncBody×cj×Addr×List (Str×Addr)×Addr:=(fd.body,fd.scope,fd.globals,fd.closure,fd.builtins)
abbrev views(w:bQ)(s:gd):List (Option (FuncBody×cj×Addr×List (Str×Addr)×Addr)):=aY.tab.map λp=>(wG (jq w s) (gH s) p.1).map viewOf
abbrev JJ:List (Option (FuncBody×cj×Addr×List (Str×Addr)×Addr)):=aY.tab.map λp=>some (.stmts p.2.body,p.2.scope,lY,[],builtinsNs)
abbrev JK(w:bQ)(s:gd)(a b c d e:ai):List (Option (Sem (List (Str×ai)))):=aY.tab.map λp=>(wG (jq w s) (gH s) p.1).map λfd=>bindArgs fd ⟨[a,b,c,d,e].take p.2.params.length,[]⟩
abbrev JL(a b c d e:ai):List (Option (Sem (List (Str×ai)))):=aY.tab.map λp=>some (pure (p.2.params.zip ([a,b,c,d,e].take p.2.params.length)))
abbrev pK:List Str:=["_wall","SmtError","VALUE_OPS","BY_ARGUMENTS","Congruence","BOOL","INT","Bank","_law_nine","_law_turn","_law_terms","_law_homes","_law_truth","_law_clashes","_law_standing","_law_is_enough","_law_shape","_law_is_told","_law_deed"].map aM
abbrev xt(s:ao):Bool:=xlAt q0 [] s && recOk (RowW.records row) s
def UJ(w:bQ)(os:OsState):(DF 7170 w os).map (λs=>(JI w s,DI w s,views w s,JK w s,UK q0 pK (UL pw.main.body) xt true s.abs))=some (true,true,JJ,JL,openGood q0 pK):=by kernel_rfl
variable{sT:gd}{fi dO:ao}{hp:Heap}
def UM(w:bQ)(os:OsState):(t0 w os).abs=⟨jQ w.params,zP [],boot_drawn,boot_toks,os⟩:=by kernel_rfl
def UN:PySem.W.Fast.tw9446332074065402090 uz=true:=by kernel_rfl
def UO:uz.wellSaid=true:=(congrFun PySem.W.Fast.te9446332074065402090 _).trans UN
def UP(w:bQ):(jQ w.params).isNs lY=true:=by kernel_rfl
structure Facts(s:ao)(sT:gd)(w:bQ):Prop where
 abs:s=sT.abs
 ok:DI w sT=true
 views:views w sT=JJ
 binds:JK w sT=JL
abbrev yf(s:ao):Prop:=∃w sT,Facts s sT w
def runs{os:OsState}(h:DF 7170 w os=some sT):
 topRun treeTable pw w (jQ w.params).objs.size ((jQ w.params).nsMap lY "__annotations__") 7170 ⟨jQ w.params,zP [],boot_drawn,boot_toks,os⟩ (topStub pw)=some sT.abs:=by
 rw[<-UM w os];refine UD 7170 ?_;rw[PySem.W.Fast.te10156331382660048174,PySem.W.Fast.te11892475500146522536,PySem.W.Fast.te14364793385576792824,PySem.W.Fast.te6613529449190102663];exact h
def UQ{tb:String->Option Builtin}(h1:(fi.heap.isNs lY && fi.gens.size==0)=true)
 (h2:topRun tb p w fi.heap.objs.size (fi.heap.nsMap lY "__annotations__") N fi (topStub p)=some dO)
 (h3:(staticsOk (importedModules p.main.body) fi.heap dO.heap && namesBound p dO.heap && gensDone dO && laidKept fi.heap dO.heap)=true):topFrom tb p w N fi=some dO:=by
 unfold topFrom;rw[h1];show Option.bind _ _=_;rw[h2];show(match _ with|true=>some dO|false=>none)=_;rw[h3]
def UR{tb:String->Option Builtin}{f:ao->α}{x:α}(h1:fencedOpening tb p w N=some fi)(h2:topFrom tb p w N fi=some dO)(h3:f dO=x):
 (openEnds tb p w N).map f=some x:=by
 unfold openEnds;rw[h1];show wH f (topFrom tb p w N fi)=_;rw[h2,<-h3];rfl
def US{d:Drawn}{tk:Nat}(h:(s.heap,s.gens,s.drawn,s.toks)=(hp,g,d,tk)):s=⟨hp,g,d,tk,s.os⟩:=by
 obtain⟨e1,h2⟩:=gb h;obtain⟨e2,h2⟩:=gb h2;obtain⟨e3,e4⟩:=gb h2;subst e1 e2 e3 e4;rfl
def UT(h:UK q0 pK (UL pw.main.body) xt true s=openGood q0 pK):
 openSeen q0 pK (importedModules pw.main.body) xt true s=openGood q0 pK:=by
 rw[PySem.W.Fast.te4187177175401517315,PySem.W.Fast.te5923862056798008813];exact h
def UU{os:OsState}(h1:DF 7170 w os=some sT)(h2:JI w sT=true):topFrom treeTable pw w 7170 ⟨jQ w.params,zP [],boot_drawn,boot_toks,os⟩=some sT.abs:=UQ (lQ.mpr ⟨UP w,rfl⟩) (runs h1) h2
def left:LeftO pw q0 pK xt yf (λY=>True) 7170:=λw=>by
 obtain⟨fi,h1,h2⟩:=gV.mp (UC w);obtain⟨sT,r1,r2⟩:=gV.mp (UJ w fi.os);obtain⟨a1,r2⟩:=gb r2;obtain⟨a2,r2⟩:=gb r2;obtain⟨a3,r2⟩:=gb r2;obtain⟨a4,a5⟩:=gb r2;exact UR h1 ((US h2)▸UU r1 a1) (JM (UT a5) (eq_true ⟨w,sT,rfl,a2,a3,a4⟩))
def holds(call:WalkX q0 pK (XL q0 []) yf (λY=>True) row ((defOf q0 (aM "law")).get rfl).1 ((defOf q0 (aM "law")).get rfl).2 λf vs=>PySem.call f vs):uz.Holds:=holds_law UO λk1=>holds_openX (r:=uz.row) left (λs e=>xl_of s (lQ.mp e).1) XL.keeps rfl rfl rfl (λs e=>recFacts_of (lQ.mp e).2) rfl k1 (by decide+kernel) ⟨rfl,rfl,rfl,rfl,rfl,by decide+kernel⟩ ⟨[.list []],by decide+kernel,by decide+kernel⟩ call
variable{p:Pos}{fl:Fl}{scope:cj}{ko:Str→Option NameKind}{fG:aw}
section
inductive sr(ρ:Nat->Addr)(N:Nat)(h:Heap):Fl->Flow->Prop
 |next:sr ρ N h .next .next
 |ret {v:V} {u:ai}:VR ρ N h v u->sr ρ N h (.ret v) (.ret u)
def sr.el{h:Heap}{f:Flow}(r:sr ρ N h fl f)(kn:fl= .next->f= .next->C)(kr:∀v u,fl= .ret v->f= .ret u->VR ρ N h v u->C):C:=by
 cases r with
 |next=>exact kn rfl rfl
 |ret x=>exact kr _ _ rfl rfl x
abbrev ru(F:Fix)(I:aT)(n:Nat):Prop:=∀{A:bB} {μ:Mp} {st U:ah} {s:ao} {aa:aO} {pe:Env} {e:Expr} {v:V} {Q E:ai->ao->Prop},cy A n->ar F μ st s->iB aa pe->bh F μ st.length s.heap aa pe->I.ev aa e st=some (v,U)->aR F μ st s U v Q->aq F.m A (eval e pe) Q E s
abbrev uC(F:Fix)(I:aT)(n:Nat):Prop:=∀{A:bB} {μ:Mp} {st U:ah} {s:ao} {aa:aO} {pe:Env} {e:Expr} {b:Bool} {Q:Bool->ao->Prop} {E:ai->ao->Prop},cy A n->ar F μ st s->iB aa pe->bh F μ st.length s.heap aa pe->I.b7 aa e st=some (b,U)->gu F μ st s U (Q b)->aq F.m A (isTrue e pe (eval e pe)) Q E s
abbrev gx(F:Fix)(μ:Mp)(st:ah)(s:ao)(U:ah)(aa:aO)(pe:Env)(fl:Fl)(ax:aw)(Q:Flow->ao->Prop):Prop:=∀aI s' f,ar F aI U s'->Step (fX aa pe) μ st.length s.heap aI U.length s'.heap->bh F aI U.length s'.heap {aa with aj:=ax} pe->sr aI.ρ U.length s'.heap fl f->Q f s'
abbrev su(F:Fix)(I:aT)(n:Nat):Prop:=∀{A:bB} {μ:Mp} {st U:ah} {s:ao} {aa:aO} {pe:Env} {ss:List Stmt} {fl:Fl} {ax:aw} {Q:Flow->ao->Prop} {E:ai->ao->Prop},cy A n->ar F μ st s->iB aa pe->bh F μ st.length s.heap aa pe->I.cZ aa ss st=some ((fl,ax),U)->gx F μ st s U aa pe fl ax Q->aq F.m A (execs ss pe) Q E s
abbrev sv(F:Fix)(I:aT)(n:Nat):Prop:=∀{A:bB} {μ:Mp} {st U:ah} {s:ao} {k:FK} {as:List V} {us:List ai} {v:V} {Q E:ai->ao->Prop},cy A n->ar F μ st s->aJ μ.ρ st.length s.heap as us->I.call k as st=some (v,U)->aR F μ st s U v Q->iV F.m A (.call (.ref (F.fa k)) ⟨us,[]⟩) (wants Q E) s
def cy.deeper(R:cy A (n+1))(aa:Env):cy (A.deeper aa) n:=⟨R.handled,by have:=R.depth;(exact aG (.add (.add az ak) aX) (.num 900) [.l (.add (.add af aK) aX) (.num 900)] rfl this),by have:=R.units;(exact bq (.add (.add (.add (.add af (.num 3)) (.mulL 10 ak)) kG) aX) av [.l (.add (.add (.add af (.mulL 10 aK)) kG) aX) av] rfl this)⟩
section
variable{st:ah}
def UW:∀{l:List (Str×α)} {n:Str} {k:α},(l.map (·.1)).Nodup->(n,k)∈l->l.lookup n=some k:=by
 intro l n k nd h;induction l with
 |nil=>cases h
 |cons q r ih=>
  obtain⟨m,j⟩:=q;rw[eP,d0]at nd;rw[oj];rcases bU.mp h with e|h
  .cases e;rw[beq_self_eq_true]
  .have ba:n≠m:=λe=>nd.1 (e▸d4.mpr ⟨_,h,rfl⟩);rw[show(n==m)=false from beq_eq_false_iff_ne.mpr ba];exact ih nd.2 h
def UX(names:List (Str×NameKind)):∀(k:Nat) (acc:List (Str×Addr)) (n:Str),(acc.lookup n).isSome=true->((cellsFrom k names acc).lookup n).isSome=true:=by
 induction names with
 |nil=>intro _ _ _ h;exact h
 |cons q0 r ih=>
  intro k acc n h;obtain⟨m,kd⟩:=q0;unfold cellsFrom;split
  .refine ih _ _ n ?_;rw[oj];split
   .rfl
   .exact h
  .exact ih _ _ n h
def JN:∀(names:List (Str×NameKind)) (k:Nat) (acc:List (Str×Addr)) (n:Str),(n,UY)∈names->((cellsFrom k names acc).lookup n).isSome=true:=by
 intro names;induction names with
 |nil=>intro _ _ _ h;cases h
 |cons q r ih=>
  intro k acc n h;obtain⟨m,kd⟩:=q;unfold cellsFrom;rcases bU.mp h with e|h
  .cases e;exact UX r _ _ _ (by rw[oj,beq_self_eq_true];rfl)
  .split
   .exact ih _ _ n h
   .exact ih _ _ n h
def UZ{n:Str}:cF (qO scope) n=none:=by
 unfold qO;generalize scope.names.filter _=l;induction l with
 |nil=>rfl
 |cons p r ih=>
  rw[eP,pf];split
  .rfl
  .exact ih
abbrev wI(ρ:Nat->Addr)(N:Nat)(h:Heap)(ko:Str->Option NameKind)(aj:aw)(m cm:Str->Option ai):Prop:=∀n v,cF aj n=some v->(ko n=some .local->∃u,m n=some u/\VR ρ N h v u)/\(ko n=some .cell->∃u,cm n=some u/\VR ρ N h v u)
def U0{h:Heap}{p:Str}{aj:aw}{m cm:Str->Option ai}(x:VR ρ N h v u)(h1:jg aj p v=some fG)(b:wI ρ N h ko aj m cm):
 wI ρ N h ko fG (if ko p=some .local then λy=>if y=p then some u else m y else m) (if ko p=some .local then cm else λy=>if y=p then some u else cm y):=by
 intro n w hw;rw[ux h1]at hw;by_cases en:n=p
 .rw[if_pos en]at hw;rw[<-bF hw,en];exact⟨λk=>⟨u,by rw[if_pos k];exact if_pos rfl,x⟩,λk=>⟨u,by rw[if_neg (by rw[k];decide)];exact if_pos rfl,x⟩⟩
 .rw[if_neg en]at hw;have e1:(if ko p=some .local then λy=>if y=p then some u else m y else m) n=m n:=by split<;>first|exact if_neg en|rfl
  have e2:(if ko p=some .local then cm else λy=>if y=p then some u else cm y) n=cm n:=by split<;>first|exact if_neg en|rfl
  rw[e1,e2];exact b n w hw
def bindR{h:Heap}{ps:List Str}{as:List V}{us:List ai}{aj:aw}{m cm:Str->Option ai}(hp:∀p∈ps,ko p=some .local\/ko p=some .cell)(r:aJ ρ N h as us)(e:r7 aj ps as=some ax)
 (b:wI ρ N h ko aj m cm):wI ρ N h ko ax (bindL ko (ps.zip us) m) (bindC ko (ps.zip us) cm):=by
 induction ps generalizing as us aj m cm with
 |nil=>
  cases as with
  |nil=>cases e;exact b
  |cons=>cases e
 |cons p ps ih=>
  cases as with
  |nil=>cases e
  |cons v as=>refine r.iq λu Jd q x r2=> ?_;clear r;subst q;exact(fg.mp e).elim λfG h=>(ih (λq hq=>hp q (dM _ hq)) r2 h.2 (U0 x h.1 b))
def U1(O:Ok F)(G:mU F mg mb){I:aT}(hx:su F I n):sv F ⟨I.ev,I.b7,I.cZ,qT F.P I⟩ (n+1):=by
 intro A μ st U s k as us v Q E R S hv h P;obtain⟨fd,au,h1,h2⟩:=bd_some h;obtain⟨gI,rfl⟩:=op_some h1;obtain⟨aj,aH,h3,h4⟩:=bd_some h2;obtain⟨hb,rfl⟩:=op_some h3;obtain⟨⟨fl,ax⟩,aQ,h5,h6⟩:=bd_some h4;have K:=G.fn k fd gI;obtain⟨name,qual,params,dV,kV,doc,pm,an,pJ,ct,oc,od,JF,DJ,U2,U3⟩:=K.at_;have hlen:us.length=fd.params.length:=by
  have:∀{ps:List Str} {as:List V} {aj ax:aw},r7 aj ps as=some ax->as.length=ps.length:=by
   intro ps;induction ps with
   |nil=>intro as aj ax h;cases as with|nil=>rfl|cons _ _=>cases h
   |cons p ps ih=>
    intro as aj ax h;cases as with
    |nil=>cases h
    |cons a as=>
     obtain⟨_,_,h2⟩:=fg.mp h;rw[mO,mO,ih h2]
  rw[hv.length,this hb]
 have zU:∀p∈fd.params.zip us,fd.scope.names.lookup p.1=some .local\/(fd.scope.names.lookup p.1=some .cell/\((cellsFrom (s.heap.objs.size+1) fd.scope.names []).lookup p.1).isSome=true):=by
  intro p hp;rcases K.par _ ((U4 hp).1)with q|q
  .exact .inl q
  .exact .inr ⟨q,JN _ _ _ _ (mem_of_lookup q)⟩
 refine codeAny_call_cells (fd:=fnOf name qual params fd.body fd.scope dV kV doc pm an pJ ct) (body:=fd.body) (binds:=fd.params.zip us) (by have:=R.depth;have:recursionLimit=1000:=rfl;(exact bq az av [.l (.add (.add af aK) aX) (.num 900),.q av dI] rfl (by assumption) this)) (S.base _ _ DJ) rfl (O.lim.keeps S.base) ?_ rfl (U3 us hlen) rfl zU
  (λdO x=> ?_) K.co K.gen K.kind
 .exact U2.keeps S.base
 generalize wJ:callEnvC (fnOf name qual params fd.body fd.scope dV kV doc pm an pJ ct) s.heap.objs.size (F.fa k)=pe at x⊢;have e1:pe.scope=fd.scope:=by rw[<-wJ];rfl
 have e2:pe.locals=s.heap.objs.size:=by rw[<-wJ];rfl
 have e3:pe.cells=cellsFrom (s.heap.objs.size+1) fd.scope.names []:=by rw[<-wJ];rfl
 have e5:pe.builtins=builtinsNs:=by rw[<-wJ];rfl
 have sx:∀m,pe.kindOf m=fd.scope.names.lookup m:=λm=>by unfold Env.kindOf;rw[e1]
 have fs:iB ⟨fd.scope,aj⟩ pe:=⟨by rw[e1];exact K.kind,(by rw[<-wJ];rfl),e5,λm hm=>(sx m).trans hm,λm hm=>(sx m).trans hm,λm hm=>(sx m).trans hm,λm hm=>.inl ((sx m).trans hm)⟩;obtain⟨jP,tk1,zV⟩:=x.toInCall.same;have k1:=x.toInCall.keep;have S1:ar F μ st dO:=S.keeps k1 (by rw[zV]) (by rw[zV]);have zW:∀b,s.heap.objs.size<=b->s.heap.get? b=none:=λb hb=>ui hb;have out:∀b,s.heap.objs.size<=b->F.h₀.get? b=none:=λb hb=>by
  cases q:F.h₀.get? b with
  |none=>rfl
  |some o=>have:=S.base _ _ q;rw[zW b hb]at this;cases this
 have zX:∀b,s.heap.objs.size<=b->∀l,l<st.length->μ.σ l≠b:=λb hb l hl e=>by
  obtain⟨o,ho,_⟩:=S.payload hl;rw[e,zW b hb]at ho;cases ho
 have above:∀m c,pe.cells.lookup m=some c->s.heap.objs.size<c:=λm c hc=>by have:=x.above m c (mem_of_lookup hc);rw[e2]at this;exact this
 have br:wI μ.ρ st.length dO.heap pe.kindOf aj (bindL pe.kindOf (fd.params.zip us) λY=>none) (bindC pe.kindOf (fd.params.zip us) λY=>none):=bindR (λp hp=>by rw[sx];exact K.par p hp) (hv.mono (λY Y=>rfl) (bG _) (cM.of_keeps k1)) hb (λm w hw=>by rw[UZ]at hw;cases hw);have fD:bh F μ st.length dO.heap ⟨fd.scope,aj⟩ pe:=by
  refine⟨⟨_,x.toInCall.ns,λm w hk hw=>(br m w hw).1 (by rw[sx];exact hk)⟩,λm hm=> ?_, ?_,λm c hc=>out c (pB (above m c hc)),λl hl=> ?_,λl m c hl hc=>zX c (pB (above m c hc)) l hl,λm c hc=> ?_,λm m' c h h'=> ?_,λm c hc=> ?_⟩
  .have mP:fd.scope.names.lookup m=some .cell:=by
    rcases hm with q|q
    .exact q
    .exact absurd rfl (K.Ux _ (mem_of_lookup q))
   have:(pe.cells.lookup m).isSome=true:=by rw[e3];exact JN _ _ _ _ (mem_of_lookup mP)
   obtain⟨c,hc⟩:=mV.mp this;exact⟨c,_,hc,x.cell m c hc,λw hw=>(br m w hw).2 (by rw[sx];exact mP)⟩
  .rw[e2];exact out _ (bG _)
  .rw[e2];exact zX _ (bG _) l hl
  .rw[e2];exact jR (above m c hc)
  .exact name_of_addr x.apart (mem_of_lookup h) (mem_of_lookup h')
  .obtain⟨o,ho,_⟩:=x.cell m c hc;exact⟨o,ho⟩
 refine hx (R.deeper pe) S1 fs fD h5 λaI s' f S' T' fD' hf=> ?_;have T0:Step cq μ st.length s.heap aI aQ.length s'.heap:=by
  refine((Step.of_keeps (X:=fX ⟨fd.scope,aj⟩ pe) k1).trans T').weaken λb o e hX=> ?_;rcases hX with rfl|⟨m,_,hc⟩
  .rw[e2,zW _ (bG _)]at e;cases e
  .rw[zW b (pB (above m b hc))]at e;cases e
 cases hf with
 |next=>
  obtain⟨rfl,rfl⟩:=rt_some h6;exact P aI s' .none S' T0 .none
 |ret hu=>
  obtain⟨rfl,rfl⟩:=rt_some h6;exact P aI s' _ S' T0 hu
end
end
variable{au:ah}{fd:FD}
section
abbrev zY(I:aT):Prop:=∀aa e p st,I.ev aa (.Starred e p) st=none
abbrev zZ(F:Fix)(μ:Mp)(st:ah)(s:ao)(U:ah)(vs:List V)(Q:List ai->ao->Prop):Prop:=∀aI s' us,ar F aI U s'->Step cq μ st.length s.heap aI U.length s'.heap->aJ aI.ρ U.length s'.heap vs us->Q us s'
section
variable{st:ah}{I:aT}{aa:aO}
def JO{e:Expr}{rest:List Expr}(h:∀x p,e≠.Starred x p):starEach (e::rest) pe=(false,eval e pe)::starEach rest pe:=by
 cases e<;>first|rfl|(exact absurd rfl (h _ _))
def JP(hI:zY I){e:Expr}(h:I.ev aa e st=some (v,U)):∀x p,e≠.Starred x p:=by rintro x p rfl;rw[hI]at h;cases h
def z8(hI:zY I)(hE:ru F I n)(R:cy A n)(fs:iB aa pe):∀{es:List Expr} {vs:List V} {st U:ah} {μ:Mp} {s:ao} {Q:List ai->ao->Prop},ar F μ st s->bh F μ st.length s.heap aa pe->dy I aa es st=some (vs,U)->zZ F μ st s U vs Q->aq F.m A (spliced (backTo pos (starEach es pe))) Q E s/\(backTo pos (starEach es pe)).any (·.1)=false:=by
 intro es;induction es with
 |nil=>
  intro vs st U μ s Q S fd h P;obtain⟨rfl,rfl⟩:=rt_some h;exact⟨aF (P μ s [] S (Step.refl _ _ _ _) .nil),rfl⟩
 |cons e es ih=>
  intro vs st U μ s Q S fd h P;obtain⟨v,au,h1,h2⟩:=bd_some h;obtain⟨ws,aH,h3,h4⟩:=bd_some h2;obtain⟨rfl,rfl⟩:=rt_some h4;rw[JO (JP hI h1)];have DK:∀(bj:Mp) (s1:ao),ar F bj au s1->bh F bj au.length s1.heap aa pe->(backTo pos (starEach es pe)).any (·.1)=false:=λbj s1 S1 bN=>
   (ih (Q:=λY Y=>True) S1 bN h3 λY Y Y Y Y Y=>trivial).2
  refine⟨?_, ?_⟩
  .refine U5 (hE R S fs fd h1 λbj s1 u S1 T1 x=> ?_);refine(ih S1 (fd.cq T1) h3 λbI s2 us S2 T2 y=> ?_).1;exact P bI s2 (u::us) S2 (T1.trans T2) (.cons (T2.VR x) y)
  .have:∀{es:List Expr} {st U:ah} {vs:List V},dy I aa es st=some (vs,U)->(backTo pos (starEach es pe)).any (·.1)=false:=by
    intro es;induction es with
    |nil=>intro _ _ _ _;rfl
    |cons e es ih=>
     intro st U vs h;obtain⟨v,au,h1,h2⟩:=bd_some h;obtain⟨ws,aH,h3,h4⟩:=bd_some h2;rw[JO (JP hI h1)];exact ih h3
   exact this h3
def U6{args:List (Bool×Sem ai)}{Q:Args->ao->Prop}(ha:args.any (·.1)=false)(h:aq F.m A (spliced args) (λvs s'=>Q ⟨vs,[]⟩ s') E s):
 aq F.m A (evalArgs f true args []) Q E s:=by
 cases args with
 |nil=>refine wB (wpAny_mono h (λvs s' h'=> ?_) λY Y x=>x);exact dD (wB (aF (wB (aF (aF h')))))
 |cons a r=>
  obtain⟨b,x⟩:=a;rw[U7,z9]at ha;have hb:=ha.1;clear ha;subst hb;exact U8 h
def uD(hI:zY I)(hE:ru F I n)(R:cy A n)(S:ar F μ st s)(fs:iB aa pe)(fd:bh F μ st.length s.heap aa pe){pos:Pos}{first:List ai}{es:List Expr}{vs:List V}{Q:ai->ao->Prop}
 (h:dy I aa es st=some (vs,U)) (hk:∀(h:Heap),F.K.In h->∃k,(k=DL\/k=DM\/k=DN)/\Looks F.m h (keeperOf f) k) (O:Ok F)
 (P:zZ F μ st s U vs λus s'=>aq F.m A (call f (first++us)) Q E s'):aq F.m A (callWith pos f first (backTo pos (starEach es pe)) []) Q E s:=by
 obtain⟨h1,h2⟩:=z8 (Q:=λus s'=>F.K.In s'.heap/\aq F.m A (call f (first++us)) Q E s') (E:=E) (pos:=pos) hI hE R fs S fd h λaI s' us S' T' x=>⟨O.K S',P aI s' us S' T' x⟩;exact callWith_of (P:=F.K.In) (by rw[h2];rfl) hk (U6 h2 h1)
def JQ{M:Model}(h:keeperOf f=pure .machine):∀h:Heap,F.K.In h->∃k,(k=DL\/k=DM\/k=DN)/\Looks M h (keeperOf f) k:=λY Y=>⟨_,.inr (.inl rfl),U9 h⟩
def U'(C:Addr)(rest:List ai)(kw:List (Str×ai)):(DO "type.__call__" ⟨.ref C::rest,kw⟩).weight<=1:=by
 have:(DO "type.__call__" ⟨.ref C::rest,kw⟩).weight=1:=by kernel_rfl
 exact a9 af aX [.e af aX] rfl this
def Va(C:Addr)(rest:List ai)(kw:List (Str×ai)):(DO "type.__call__" ⟨.ref C::rest,kw⟩).cUnits<=7:=by
 have:(DO "type.__call__" ⟨.ref C::rest,kw⟩).cUnits=1:=by kernel_rfl
 exact a9 af dm [.e af aX] rfl this
def Vb(O:Ok F)(G:mU F mg mb)(hC:sv F I n)(R:cy A (n+1))(S:ar F μ st s){as:List V}{us:List ai}{x:V}{aH:ah}{Q:ai->ao->Prop}(hc:dR c F.P.classes=true)(hv:aJ μ.ρ st.length s.heap as us)
 (hf:ij (c,aM "__init__") F.P.tab=some fd) (h1:je (.inst c []) st=some (x,au)) (h2:I.call (c,aM "__init__") (x::as) au=some (.none,aH)) (P:aR F μ st s aH x Q):
 aq F.m A (call (.ref (F.ca c)) us) Q E s:=by
 obtain⟨rfl,rfl⟩:=newO_some h1;obtain⟨_,om,_⟩:=G.cls c hc;refine wpAny_call ?_;obtain⟨h,g,d,t,os⟩:=s;refine make_core (makes_of (O.K S) om) (looks_findIn (O.K S) (G.DB c _ fd hc hf)) (λself=>bind_fn (O.K S) self (G.fn _ _ hf).typ) (.inl rfl) ?_;have g2:((h.push emptyDict).push (instObj (F.ca c) h.objs.size)).get? h.objs.size=some emptyDict:=by heap_get
 obtain⟨S',T'⟩:=S.alloc (s':=⟨(h.push emptyDict).push (instObj (F.ca c) h.objs.size),g,d,t,os⟩) (r:=h.objs.size+1) (a:=h.objs.size) (o:=.inst c []) (λb o e=>cS _ (cS _ e)) rfl rfl (pE _)
  ⟨[],0,by simpa[Mp.put]using(by heap_get),g2,.nil,.nil,hc⟩
 have T0:=T';have pH:=T'.aJ hv;have hx:VR (μ.put st.length (h.objs.size+1) h.objs.size).ρ (st++[Internal.O.inst c []]).length ((h.push emptyDict).push (instObj (F.ca c) h.objs.size)) (.ab st.length) (.ref (h.objs.size+1)):=by have:VR (μ.put st.length (h.objs.size+1) h.objs.size).ρ (st++[Internal.O.inst c []]).length ((h.push emptyDict).push (instObj (F.ca c) h.objs.size)) (.ab st.length) (.ref ((μ.put st.length (h.objs.size+1) h.objs.size).ρ st.length)):=.ab (by simp);simpa[Mp.put]using this
 have R':cy (A.under (.builtin "type.__call__" ⟨.ref (F.ca c)::us,[]⟩)) n:=by
  have w1:=U' (F.ca c) us [];have w2:=Va (F.ca c) us [];refine⟨R.handled, ?_, ?_⟩
  .have:=R.depth;exact bq (.add (.add (.add ak af) av) aX) (.num 900) [.l af aX,.l (.add (.add ak bD) aX) (.num 900)] rfl w1 this
  .have:=R.units;exact dC (.add (.add (.add (.add ak af) (.mulL 10 av)) kG) aX) bo [.l af dm,.l (.add (.add (.add ak (.mulL 10 bD)) kG) aX) bo] rfl w2 this
 refine codeAny_mono (hC (E:=E) (Q:=λv s'=>v= .none/\Q (.ref (h.objs.size+1)) s') R' S' (.cons hx pH) h2 λaI s' u Vc JR y=> ?_) λr s' z=> ?_
 .cases y;exact⟨rfl,P aI s' _ Vc (T0.trans JR) (JR.VR hx)⟩
 ··exact z
end
end
variable{t:Nat}{s1:ao}{bj:Mp}{cn:Const}{T:String}
section
structure Plain(F:Fix)(I:aT):Prop where
 star:zY I
 set:∀aa es k p st,I.ev aa (.Set es k p) st=none
 slice:∀aa a b c p st,I.ev aa (.Slice a b c p) st=none
 Vd:∀aa a b c p st,I.ev aa (.SetComp a b c p) st=none
 Ve:∀aa a b c d p st,I.ev aa (.DictComp a b c d p) st=none
 call:∀k as st r,I.call k as st=some r->∃fd,ij k F.P.tab=some fd
structure Ctx(F:Fix)(mg mb:Str->Option ai)(I:aT)(n:Nat)(A:bB)(aa:aO)(pe:Env):Prop where
 O:Ok F
 G:mU F mg mb
 hI:Plain F I
 hE:ru F I n
 hT:uC F I n
 hX:su F I n
 hC:sv F I n
 R:cy A (n+1)
 fs:iB aa pe
variable{e o r l:Expr}{a:V}
section
variable{st:ah}{I:aT}{aa:aO}
def Ctx.R0(c:Ctx F mg mb I n A aa pe):cy A n:=c.R.mono (mM n)
def Ctx.R1(c:Ctx F mg mb I n A aa pe):cy A 1:=c.R.mono (mQ (dJ n))
def Ctx.ev(c:Ctx F mg mb I n A aa pe)(S:ar F μ st s)(fd:bh F μ st.length s.heap aa pe)(h:I.ev aa e st=some (v,U))
 (k:∀aI s' u,ar F aI U s'->Step cq μ st.length s.heap aI U.length s'.heap->bh F aI U.length s'.heap aa pe->VR aI.ρ U.length s'.heap v u->Q u s'):aq F.m A (eval e pe) Q E s:=c.hE c.R0 S c.fs fd h λaI s' u S' T' x=>k aI s' u S' T' (fd.cq T') x
def aR.after(P:aR F μ st s U v Q)(T:Step cq μ st.length s.heap bj au.length s1.heap):aR F bj au s1 U v Q:=λbI s2 u S2 T2 x=>P bI s2 u S2 (T.trans T2) x
def gu.after{Q:ao->Prop}(P:gu F μ st s U Q)(T:Step cq μ st.length s.heap bj au.length s1.heap):gu F bj au s1 U Q:=λbI s2 S2 T2=>P bI s2 S2 (T.trans T2)
def aR.same{w:V}(P:aR F μ st s U v Q)(S:ar F μ st s)(e1:w=v)(e2:st=U)(x:VR μ.ρ st.length s.heap w u)(t:Nat):Q u {s with toks:=t}:=by subst e1;subst e2;exact P.tok S x
def Vf{Z:Const->V->Prop}(kn:Z .none .none)(kb:∀b,Z (.bool b) (.bool b))(ki:∀b,Z (.int b) (.int b))(ks:∀b,Z (.str b) (.str b))(h:tX cn=some v):Z cn v:=by
 cases cn<;>first|exact noNS h|exact bF h▸kn|exact bF h▸kb _|exact bF h▸ki _|exact bF h▸ks _
def Vg(S:ar F μ st s)(h:op (tX cn) st=some (v,U))(P:aR F μ st s U v Q):aq F.m A (eval (.Constant cn k pos) pe) Q E s:=by
 obtain⟨h1,e⟩:=op_some h;exact Vf (Z:=λcn v=>aR F μ st s U v Q->aq F.m A (eval (.Constant cn k pos) pe) Q E s) (λP=>wpAny_Constant_none (P.same S rfl e .none s.toks)) (λb P=>wpAny_Constant_bool (P.same S rfl e (.bool _) s.toks))
  (λb P=>wpAny_Constant_int (P.same S rfl e (.int _ _) _)) (λb P=>PySem.wpAny_Constant_str (P.same S rfl e (.str _ _) _)) h1 P
def truthy_some{b:Bool}(h:truthy v st=some (b,U)):v= .bool b/\st=U:=by
 cases v<;>first|exact noNS h|(cases h;exact⟨rfl,rfl⟩)
def JS{f:Bool->M α}{st:ah}{r:α×ah}(h:bd (truthy a) f st=some r)(k:∀b,a= .bool b->f b st=some r->C):C:=bc h λv au h1 h2=>(truthy_some h1).elim λe1 e2=>k v e1 (by rw[e2];exact h2)
def VR.bool_inv{h:Heap}{i:Bool}(x:VR ρ N h a u)(e:a= .bool i):u= .bool i:=(e▸x).out
def VR.pL{h:Heap}(x:VR ρ N h a u)(e:a= .ab i):u= .ref (ρ i):=(e▸x).out.1
def aR.rt{w:V}(P:aR F μ st s U v Q)(h:rt w au=some (v,U)):aR F μ st s au w Q:=by
 obtain⟨rfl,rfl⟩:=rt_some h;exact P
def Vh(c:Ctx F mg mb I n A aa pe){o:BoolOp}:∀{es:List Expr} {st U:ah} {μ:Mp} {s:ao} {v:V} {Q:ai->ao->Prop},ar F μ st s->bh F μ st.length s.heap aa pe->gU I aa o es st=some (v,U)->aR F μ st s U v Q->aq F.m A (boolOp pos o (evalEach es pe)) Q E s:=by
 intro es;induction es with
 |nil=>intro _ _ _ _ _ _ S fd h P;cases h
 |cons e r ih=>
  intro st U μ s v Q S fd h P;cases r with
  |nil=>exact c.hE c.R0 S c.fs fd h P
  |cons e2 r=>
  refine bc (m:=I.ev aa e) (f:=λv=>bd (truthy v) λt=>match o,t with|.And,false=>rt v|.Or,true=>rt v|_,_=>gU I aa o (e2::r)) h λw au h1 h2=>JS h2 λt ew h4=> ?_;clear h h2;refine wB (c.ev S fd h1 λbj s1 u S1 T1 bN x=> ?_);rw[x.bool_inv ew];refine wB (mW (wB (dD (wpAny_truthy_bool ?_))));rw[x.bool_inv ew]at x;clear ew;cases o<;>cases t
  .exact aF (P.rt h4 bj s1 _ S1 T1 x)
  .exact ih S1 bN h4 (P.after T1)
  .exact ih S1 bN h4 (P.after T1)
  .exact aF (P.rt h4 bj s1 _ S1 T1 x)
def gu.rt{v w:α}{Q:α->ao->Prop}(P:gu F μ st s U (Q v))(h:rt w au=some (v,U)):gu F μ st s au (Q w):=by
 obtain⟨rfl,rfl⟩:=rt_some h;exact P
def Vi(c:Ctx F mg mb I n A aa pe){o:BoolOp}:∀{es:List Expr} {st U:ah} {μ:Mp} {s:ao} {b:Bool} {Q:Bool->ao->Prop},ar F μ st s->bh F μ st.length s.heap aa pe->gq I aa o es st=some (b,U)->gu F μ st s U (Q b)->aq F.m A (allTrue o es pe) Q E s:=by
 intro es;induction es with
 |nil=>
  intro st U μ s b Q S fd h P;have P:=P.rt h;cases o
  .exact wpAny_allTrue_And_nil (P μ s S (Step.refl ..))
  .exact wpAny_allTrue_Or_nil (P μ s S (Step.refl ..))
 |cons e r ih=>
  intro st U μ s b Q S fd h P;refine bc (m:=I.b7 aa e) (f:=λt=>match o,t with|.And,false=>Internal.rt false|.Or,true=>Internal.rt true|_,_=>gq I aa o r) h λt au h1 h2=> ?_;clear h;cases o
  .refine wpAny_allTrue_And_cons (c.hT c.R0 S c.fs fd h1 λbj s1 S1 T1=> ?_);cases t
   .exact(P.rt h2) bj s1 S1 T1
   .exact ih S1 (fd.cq T1) h2 (P.after T1)
  .refine wpAny_allTrue_Or_cons (c.hT c.R0 S c.fs fd h1 λbj s1 S1 T1=> ?_);cases t
   .exact ih S1 (fd.cq T1) h2 (P.after T1)
   .exact(P.rt h2) bj s1 S1 T1
def JT{a:Str}{w:Sem ai}(h:lJ o=true):attributeBase o a pe w=w:=by
 have r:w=w:=rfl;revert h;apply Expr.casesOn (motive_1:=λo=>lJ o=true->attributeBase o a pe w=w) o
 case Call=>
  intro f as ks p;apply Expr.casesOn (motive_1:=λf=>lJ (.Call f as ks p)=true->attributeBase (.Call f as ks p) a pe w=w) f
  case Name=>
   intro n q;apply CT (motive:=λas=>lJ (.Call (.Name n q) as ks p)=true->attributeBase (.Call (.Name n q) as ks p) a pe w=w) as
   .apply CT (motive:=λks=>lJ (.Call (.Name n q) [] ks p)=true->attributeBase (.Call (.Name n q) [] ks p) a pe w=w) ks
    .exact λh=>cu h
    .exact λY Y Y=>r
   .exact λY Y Y=>r
  all_goals(intros;exact r)
 all_goals(intros;exact r)
private def JU(hI:Plain F I){o:CmpOp}(h:I.ev aa r st=some (v,U)):behindInMarks o r=false:=by
 have z:false=false:=rfl;revert h;apply Expr.casesOn (motive_1:=λr=>I.ev aa r st=some (v,U)->behindInMarks o r=false) r<;>intros<;>first|exact z|(rename_i h;rw[hI.set]at h;exact noNS h)
def Vj(c:Ctx F mg mb I n A aa pe)(S:ar F μ st s)(fd:bh F μ st.length s.heap aa pe){o:CmpOp}
 (h:(bd (I.ev aa l) λa=>bd (I.ev aa r) λb=>cmp o a b) st=some (v,U)) (P:aR F μ st s U v Q):aq F.m A (eval (.Compare l [o] [r] pos) pe) Q E s:=by
 obtain⟨a,au,h1,h2⟩:=bd_some h;obtain⟨b,aH,h3,h4⟩:=bd_some h2;refine wpAny_Compare1 (c.ev S fd h1 λbj s1 u S1 T1 bN x=>c.ev S1 bN h3 λbI s2 w S2 T2 cP y=> ?_) (JU c.hI h3);exact IW c.O S2 c.R1 h4 (T2.VR x) y (P.after (T1.trans T2))
def Vk(c:Ctx F mg mb I n A aa pe)(S:ar F μ st s)(fd:bh F μ st.length s.heap aa pe){o:CmpOp}{b:Bool}{w:Sem ai}{Q:Bool->ao->Prop}
 (h:(bd (I.ev aa l) λa=>bd (I.ev aa r) λb=>bd (cmp o a b) λc=>truthy c) st=some (b,U)) (P:gu F μ st s U (Q b)):aq F.m A (isTrue (.Compare l [o] [r] pos) pe w) Q E s:=by
 refine bc h λa au h1 h2=>bc h2 λb aH h3 h4=>bc h4 λd aQ h5 h6=> ?_;obtain⟨e1,e2⟩:=truthy_some h6;refine wpAny_isTrue_Compare1 (c.ev S fd h1 λbj s1 u S1 T1 bN x=>c.ev S1 bN h3 λbI s2 w S2 T2 cP y=> ?_) (JU c.hI h3);refine IW c.O S2 c.R1 h5 (T2.VR x) y λgy s3 z S3 T3 q=> ?_;rw[q.bool_inv e1];exact wpAny_truthy_bool ((show gu F μ st s aQ _ from e2▸P) gy s3 S3 ((T1.trans T2).trans T3))
def Vl(c:Ctx F mg mb I n A aa pe)(S:ar F μ st s)(fd:bh F μ st.length s.heap aa pe){o:Operator}
 (h:(bd (I.ev aa l) λa=>bd (I.ev aa r) λb=>binop o a b) st=some (v,U)) (P:aR F μ st s U v Q):aq F.m A (eval (.BinOp l o r pos) pe) Q E s:=by
 obtain⟨a,au,h1,h2⟩:=bd_some h;obtain⟨b,aH,h3,h4⟩:=bd_some h2;refine wpAny_BinOp (c.ev S fd h1 λbj s1 u S1 T1 bN x=>c.ev S1 bN h3 λbI s2 w S2 T2 cP y=> ?_);exact Sw S2 h4 (T2.VR x) y (P.after (T1.trans T2))
def Vm(c:Ctx F mg mb I n A aa pe)(S:ar F μ st s)(fd:bh F μ st.length s.heap aa pe)
 (h:(bd (I.ev aa e) λv=>bd (cR v) λi=>rt (.int (-i))) st=some (v,U)) (P:aR F μ st s U v Q):aq F.m A (eval (.UnaryOp .USub e pos) pe) Q E s:=by
 refine bc h λa au h1 h2=>kX h2 λi ea h3=> ?_;refine wpAny_UnaryOp (c.ev S fd h1 λbj s1 u S1 T1 bN x=> ?_);obtain⟨t,rfl⟩:=x.int_inv ea;exact PyProof.Rows.neg_int ((P.after T1).int S1 h3 _ _)
def Vn(c:Ctx F mg mb I n A aa pe)(S:ar F μ st s)(fd:bh F μ st.length s.heap aa pe)
 (h:(bd (I.ev aa e) λv=>bd (truthy v) λt=>rt (.bool !t)) st=some (v,U)) (P:aR F μ st s U v Q):aq F.m A (eval (.UnaryOp .Not e pos) pe) Q E s:=by
 refine bc h λa au h1 h2=>JS h2 λt ea h4=> ?_;refine wpAny_UnaryOp (c.ev S fd h1 λbj s1 u S1 T1 bN x=> ?_);rw[x.bool_inv ea];exact not_value (wpAny_truthy_bool (P.rt h4 bj s1 _ S1 T1 (.bool _)))
def Vo(c:Ctx F mg mb I n A aa pe)(S:ar F μ st s)(fd:bh F μ st.length s.heap aa pe){t b:Expr}
 (h:(bd (I.b7 aa t) λc=>if c then I.ev aa b else I.ev aa o) st=some (v,U)) (P:aR F μ st s U v Q):aq F.m A (eval (.IfExp t b o pos) pe) Q E s:=by
 obtain⟨a,au,h1,h2⟩:=bd_some h;refine wpAny_IfExp (c.hT c.R0 S c.fs fd h1 λbj s1 S1 T1=> ?_);clear h1;cases a
 .exact c.hE c.R0 S1 c.fs (fd.cq T1) h2 (P.after T1)
 .exact c.hE c.R0 S1 c.fs (fd.cq T1) h2 (P.after T1)
def Vp(c:Ctx F mg mb I n A aa pe)(S:ar F μ st s)(fd:bh F μ st.length s.heap aa pe){a:Str}(hb:lJ o=true)
 (h:(bd (I.ev aa o) λov=>getAttr F.P ov a) st=some (v,U)) (P:aR F μ st s U v Q):aq F.m A (eval (.Attribute o a pos) pe) Q E s:=by
 obtain⟨w,au,h1,h2⟩:=bd_some h;refine Attribute_any_ (c.ev S fd h1 λbj s1 u S1 T1 bN x=> ?_) ?_
 .exact SA c.O S1 h2 x (P.after T1)
 .show(attributeBase o a pe (eval o pe) >>= _)=_;rw[JT hb]
def Vq(c:Ctx F mg mb I n A aa pe)(S:ar F μ st s)(fd:bh F μ st.length s.heap aa pe){es:List Expr}
 (h:(bd (dy I aa es) λvs=>cg vs) st=some (v,U)) (P:aR F μ st s U v Q):aq F.m A (eval (.List es pos) pe) Q E s:=by
 obtain⟨vs,au,h1,h2⟩:=bd_some h;refine PySem.wpAny_List (z8 c.hI.star c.hE c.R0 c.fs S fd h1 λbj s1 us S1 T1 x=>⟨?_, ?_⟩).1
 .rw[x.length];exact bx (newL_some h2).1 iU
 .exact(P.after T1).list (t:=s1.toks) h2 S1 x
def Vr(c:Ctx F mg mb I n A aa pe)(S:ar F μ st s)(fd:bh F μ st.length s.heap aa pe){es:List Expr}
 (h:(bd (dy I aa es) λvs=>bd (fits vs.length) λY=>rt (.tup vs)) st=some (v,U)) (P:aR F μ st s U v Q):aq F.m A (eval (.Tuple es k pos) pe) Q E s:=by
 obtain⟨vs,au,h1,h2⟩:=bd_some h;obtain⟨_,aH,h3,h4⟩:=bd_some h2;obtain⟨hc,rfl⟩:=fits_some h3;obtain⟨rfl,rfl⟩:=rt_some h4;refine PySem.wpAny_Tuple (z8 c.hI.star c.hE c.R0 c.fs S fd h1 λbj s1 us S1 T1 x=>⟨?_, ?_⟩).1
 .rw[x.length];exact bx hc iU
 .exact(P.after T1).tuple (t:=s1.toks) S1 x
def Vs(slice:Expr)(o i:ai):subscripted slice false o i=operate [i,o] (jN o i)\/subscripted slice false o i=operate [o,i] (jN o i):=by
 have hr:(operate [o,i] (jN o i)=operate [i,o] (jN o i))\/operate [o,i] (jN o i)=operate [o,i] (jN o i):=.inr rfl;apply Expr.casesOn (motive_1:=λslice=>subscripted slice false o i=operate [i,o] (jN o i)\/subscripted slice false o i=operate [o,i] (jN o i)) slice
 case Slice=>intro a b c d;cases c;exact(.inl rfl);exact hr
 all_goals(intros;exact hr)
def wK{value slice:Expr}{o i:ai}{id:String}(hT:s.TypeIs o T)(hl:typeLookup (.type T) "__getitem__"=pure (some (.builtin id)))(h:aq F.m A (jN o i) Q E s):
 aq F.m A (subscriptTail value slice o i) Q E s:=by
 refine wB ?_;refine wB (sh hT hl ?_);have fin:aq F.m A (subscripted slice false o i) (λr Vt=>aq F.m A (letTemporaryGo value o r >>= λY=>pure r) Q E Vt) E s:=by
  rcases Vs slice o i with e|e<;>rw[e]<;>exact wpAny_operate' (wpAny_mono h (λr s3 q=>wB (wpAny_letTemporaryGo (aF q))) λY Y x=>x)
 first
  |exact aF (wB fin)
  |exact wB (aF (wB fin))
  |exact wB fin
def Vu(c:Ctx F mg mb I n A aa pe)(S:ar F μ st s){i:Expr}{b:V}{w:ai}(h:getItem a b st=some (v,U))(x:VR μ.ρ st.length s.heap a u)(y:VR μ.ρ st.length s.heap b w)(P:aR F μ st s U v Q):
 aq F.m A (subscriptTail o i u w) Q E s:=by
 cases x with
 |tup ht hs=>
  refine kX h λj eb h=>bc h λY aQ h5 h6=> ?_;obtain⟨hc,e1⟩:=fits_some h5;obtain⟨h7,e2⟩:=op_some h6;obtain⟨t,rfl⟩:=y.int_inv eb;exact wK (T:="tuple") (Df ht) PySem.F.slot_tuple_getitem.lookup (SN S ht hs hc h7 (show aR F μ st s st _ _ from(e1.trans e2)▸P))
 |ab _=>
  refine bc h λob aQ h5 h6=> ?_;obtain⟨hl,e1⟩:=getO_some h5;cases ob with
  |list xs=>
   refine kX h6 λj eb h=> ?_;obtain⟨h7,e2⟩:=op_some h;obtain⟨t,rfl⟩:=y.int_inv eb;obtain⟨vs,L,r,_⟩:=fV S hl;exact wK L.typeIs slot_list_getitem.lookup (SM S L r (lenOf S hl) h7 (show aR F μ st s st _ _ from(e1.trans e2)▸P))
  |dict kvs ep=>
   obtain⟨hs,h⟩:=if_some h6;obtain⟨h7,e2⟩:=op_some h;obtain⟨es,k,e,hd,_⟩:=dictAt S hl;exact wK (rh hd) slot_dict_getitem.lookup (Tq S c.R1 hl hs h7 y (show aR F μ st s st _ _ from(e1.trans e2)▸P))
  |inst _ _=>exact noNS h6
 |none=>exact noNS h
 |bool _=>exact noNS h
 |int _ _=>exact noNS h
 |str _ _=>exact noNS h
 |cY _ _=>exact noNS h
def Vv(c:Ctx F mg mb I n A aa pe)(S:ar F μ st s)(fd:bh F μ st.length s.heap aa pe){i:Expr}
 (h:(bd (I.ev aa o) λov=>bd (I.ev aa i) λiv=>getItem ov iv) st=some (v,U)) (P:aR F μ st s U v Q):aq F.m A (eval (.Subscript o i pos) pe) Q E s:=bc h λa au h1 h2=>bc h2 λb aH h3 h4=>Subscript_ (c.ev S fd h1 λbj s1 u S1 T1 bN x=>c.ev S1 bN h3 λbI s2 w S2 T2 cP y=>Vu c S2 h4 (T2.VR x) y (P.after (T1.trans T2)))
def JV(c:Ctx F mg mb I n A aa pe)(S:ar F μ st s)(fd:bh F μ st.length s.heap aa pe){e:Option Expr}{r:Option Int}(h:lI I aa e st=some (r,U))
 (P:∀aI s' u,ar F aI U s'->Step cq μ st.length s.heap aI U.length s'.heap->bh F aI U.length s'.heap aa pe->IsPart u r->Q u s'):aq F.m A (evalPart e pe) Q E s:=by
 cases e with
 |none=>
  obtain⟨rfl,rfl⟩:=rt_some h;exact aF (P μ s _ S (Step.refl ..) fd .none)
 |some e=>
  refine bc h λv au h1 h2=>kX h2 λi ea h3=> ?_;clear h h2;obtain⟨e1,e2⟩:=rt_some h3;subst e1;subst e2;refine c.ev S fd h1 λbj s1 u S1 T1 bN x=> ?_;obtain⟨t,rfl⟩:=x.int_inv ea;exact P bj s1 _ S1 T1 bN (.int _ _)
def Vw(c:Ctx F mg mb I n A aa pe)(S:ar F μ st s)(fd:bh F μ st.length s.heap aa pe){lo hi:Option Expr}
 (h:(bd (I.ev aa o) λov=>bd (lI I aa lo) λa=>bd (lI I aa hi) λb=>bd (getL ov) λp=>cg (pb p.2 a b)) st=some (v,U)) (P:aR F μ st s U v Q):
 aq F.m A (eval (.Subscript o (.Slice lo hi none p) pos) pe) Q E s:=by
 obtain⟨w,au,h1,h2⟩:=bd_some h;obtain⟨a,aH,h3,h4⟩:=bd_some h2;obtain⟨b,aQ,h5,h6⟩:=bd_some h4;obtain⟨q,b6,h7,h8⟩:=bd_some h6;obtain⟨rfl,hl,rfl⟩:=getL_some h7;refine Subscript_ (c.ev S fd h1 λbj s1 u S1 T1 bN x=>wpAny_Slice (JV c S1 bN h3 λbI s2 ul S2 T2 cP pl=>JV c S2 cP h5 λgy s3 uh S3 T3 pM ph=>aF ?_));have x3:=T3.VR (T2.VR x);clear x;cases x3;have k:∀b o,s3.heap.get? b=some o->(s3.heap.push {cls:=.type "slice",data:=.fields #[ul,uh,.none]}).get? b=some o:=λb o e=>cS _ e;have S4:ar F gy aQ {s3 with heap:=s3.heap.push {cls:=.type "slice",data:=.fields #[ul,uh,.none]}}:=S3.keeps k rfl rfl;obtain⟨vs,L,r,_⟩:=fV S4 hl;exact wK L.typeIs slot_list_getitem.lookup (TU S4 hl (Vx ..) pl ph h8 (P.after (((T1.trans T2).trans T3).trans (Step.of_keeps k))))
def Vy(c:Ctx F mg mb I n A aa pe)(S:ar F μ st s)(fd:bh F μ st.length s.heap aa pe)
 (h:(bd (I.ev aa o) λov=>bd (I.ev aa e) λs=>bd (cR s) λi=>if i= -1 then bd (getL ov) λp=>cg p.2.reverse else er) st=some (v,U)) (P:aR F μ st s U v Q):
 aq F.m A (eval (.Subscript o (.Slice none none (some e) p) pos) pe) Q E s:=by
 refine bc h λw au h1 h2=>bc h2 λb aH h3 h4=>kX h4 λi eb h5=>bc (if_some h5).2 λq aQ h6 h7=> ?_;obtain⟨ew,hl,rfl⟩:=getL_some h6;refine Subscript_ (c.ev S fd h1 λbj s1 u S1 T1 bN x=>wpAny_Slice (aF (aF ?_)));refine c.ev S1 bN h3 λbI s2 w S2 T2 cP y=> ?_;obtain⟨t,rfl⟩:=y.int_inv eb;rw[(T2.VR x).pL ew,((if_some h5).1)];have k:∀b o,s2.heap.get? b=some o->(s2.heap.push {cls:=.type "slice",data:=.fields #[.none,.none,.int (-1) t]}).get? b=some o:=λb o e=>cS _ e;have S4:ar F bI aH {s2 with heap:=s2.heap.push {cls:=.type "slice",data:=.fields #[.none,.none,.int (-1) t]}}:=S2.keeps k rfl rfl;obtain⟨vs,L,r,_⟩:=fV S4 hl;exact wK L.typeIs slot_list_getitem.lookup (TV S4 hl (Vx ..) h7 (P.after ((T1.trans T2).trans (Step.of_keeps k))))
end
end
variable{src:Src}
section
abbrev jS(h:Heap)(as:List Addr):Prop:=∀a∈as,∃o,h.get? a=some o/\iz o
variable{as:List Addr}
def wL{h:Heap}(hc:jS h as)(k:∀b ob,b∉as->h.get? b=some ob->h'.get? b=some ob):cM h h':=Dx hc k
structure eD(F:Fix)(μ:Mp)(N:Nat)(h:Heap)(as:List Addr):Prop where
 out:∀a∈as,F.h₀.get? a=none
 σ:∀a∈as,∀l,l<N->μ.σ l≠a
 off:jS h as
section
variable{st:ah}
def ar.jr(S:ar F μ st s)(io:eD F μ st.length s.heap as)(k:∀b ob,b∉as->s.heap.get? b=some ob->s'.heap.get? b=some ob)(hg:s'.gens=s.gens)(lO:s'.os=s.os):ar F μ st s':=S.wz io.out io.σ io.off k hg lO
def Step.jr{h:Heap}(io:jS h as)(k:∀b ob,b∉as->h.get? b=some ob->h'.get? b=some ob)(hx:∀a∈as,∃o,h'.get? a=some o):Step (·∈as) μ N h μ N h':=.wz io k hx
def eD.step{h:Heap}(io:eD F μ N h as)(T:Step X μ N h aI N' h')(hX:∀a∈as,¬X a):eD F aI N' h' as:=by
 refine⟨io.out,λa ha l hl e=> ?_,λa ha=> ?_⟩
 .obtain⟨o,ho,_⟩:=io.off a ha;by_cases bY:l<N
  .rw[T.σ l bY]at e;exact io.σ a ha l bY e
  .have:=T.new l (aG af ak [.l af ak] rfl (fT.mp bY)) hl;rw[e,ho]at this;cases this
 .obtain⟨o,ho,iA⟩:=io.off a ha;exact⟨o,T.keep a o ho (hX a ha) λl hl e=>io.σ a ha l hl e.symm,iA⟩
abbrev stI(μ:Mp)(N:Nat)(h:Heap)(as:List Addr)(i:Nat):Src->Prop
 |.list l=>∃I,as=[I]/\l<N/\h.IsListIter I (μ.ρ l) i
 |.dict l n ep=>∃I,as=[I]/\l<N/\h.IsKeyIter I (μ.ρ l) i n ep
 |.items xs=>(∃I t vs,as=[I]/\h.IsTuple t (gG vs)/\aJ μ.ρ N h xs vs/\h.IsTupleIter I t i)\/∃(I n:Nat),as=[I]/\xs=((f' n).map λ(k:Nat)=>V.int k)/\IsRangeIter h I (i:Nat) ((n:Int)-(i:Nat)) 1
 |.enum xs=>i<=xs.length/\∃e it t vs old,as=[e,it]/\e≠it/\h.IsTuple t (gG vs)/\aJ μ.ρ N h xs vs/\IsEnum h e it (i:Nat) old/\h.IsTupleIter it t i
abbrev sy(μ:Mp)(N:Nat)(h:Heap)(as:List Addr)(i:Nat)(u:ai):Src->Prop
 |.enum xs=>i<=xs.length/\∃e it t vs x T,as=[e,it]/\e≠it/\u= .ref T/\h.IsTuple t (gG vs)/\aJ μ.ρ N h xs vs/\IsEnumOut h e it (i:Nat) x T/\h.IsTupleIter it t i
 |src=>stI μ N h as i src
def z'(hc:o.cls= .type T)(hd:o.data= .fields vs)(h1:T≠"tuple")(h2:T≠"range"):iz o:=.inr (.inr ⟨T,hc,h1,h2,by rw[hd];exact λq=>by cases q⟩)
def sA{c:Addr}:c∈[a,b]<->c=a\/c=b:=by rw[bU,bV]
def Aa{h:Heap}{P:Obj->Prop}(kp:∀a∈as,∀o,h.get? a=some o->h'.get? a=some o)(ha:a∈as)(x:∃o,h.get? a=some o/\P o):∃o,h'.get? a=some o/\P o:=x.elim λo q=>⟨o,kp a ha o q.1,q.2⟩
def stI.step{h:Heap}(j:stI μ N h as i src)(T:Step X μ N h aI N' h')(hX:∀a∈as,¬X a)(gc:∀a∈as,∀l,l<N->μ.σ l≠a):stI aI N' h' as i src:=by
 have kp:=λa ha o e=>T.keep a o e (hX a ha) λl hl q=>gc a ha l hl q.symm;have m1:∀{I},as=[I]->I∈as:=λe=>e▸bV.mpr rfl;cases src with
 |list l=>exact j.elim λI j=>⟨I,j.1,eM j.2.1 T.len,(T.ρ l j.2.1).symm▸Aa kp (m1 j.1) j.2.2⟩
 |dict l n ep=>exact j.elim λI j=>⟨I,j.1,eM j.2.1 T.len,(T.ρ l j.2.1).symm▸Aa kp (m1 j.1) j.2.2⟩
 |items xs=>
  exact j.elim (λj=>.inl (j.elim λI j=>j.elim λt j=>j.elim λvs j=>⟨I,t,vs,j.1,T.kQ.tup _ _ j.2.1,T.aJ j.2.2.1,Aa kp (m1 j.1) j.2.2.2⟩))
   λj=>.inr (j.elim λI j=>j.elim λn j=>⟨I,n,j.1,j.2.1,kp I (m1 j.1) _ j.2.2⟩)
 |enum xs=>exact⟨j.1,j.2.elim λe j=>j.elim λit j=>j.elim λt j=>j.elim λvs j=>j.elim λold j=>⟨e,it,t,vs,old,j.1,j.2.1,T.kQ.tup _ _ j.2.2.1,T.aJ j.2.2.2.1,kp e (j.1▸sA.mpr (.inl rfl)) _ j.2.2.2.2.1,Aa kp (j.1▸sA.mpr (.inr rfl)) j.2.2.2.2.2⟩⟩
abbrev rx(h:Heap)(I:Addr):Prop:=∃o,h.get? I=some o/\∃(T:String) (vs:Array ai),o.cls= .type T/\o.data= .fields vs/\(["list_iterator","dict_keyiterator","tuple_iterator","range_iterator"].contains T)=true
def rx.mk{h:Heap}{I:Addr}(hT:(["list_iterator","dict_keyiterator","tuple_iterator","range_iterator"].contains T)=true)(x:∃o,h.get? I=some o/\o.cls= .type T/\o.data= .fields vs):rx h I:=x.elim λo q=>⟨o,q.1,_,_,q.2.1,q.2.2,hT⟩
def stI.plain1{h:Heap}(j:stI μ N h as i src)(ba:∀xs,src≠.enum xs):∃I,as=[I]/\rx h I:=by
 cases src with
 |list l=>exact j.elim λI j=>⟨I,j.1,.mk rfl j.2.2⟩
 |dict l n ep=>exact j.elim λI j=>⟨I,j.1,.mk rfl j.2.2⟩
 |items xs=>exact j.elim (λj=>j.elim λI j=>j.elim λt j=>j.elim λvs j=>⟨I,j.1,.mk rfl j.2.2.2⟩) λj=>j.elim λI j=>j.elim λn j=>⟨I,j.1,⟨_,j.2.2,"range_iterator",_,rfl,rfl,by decide⟩⟩
 |enum xs=>exact(ba xs rfl).elim
def stI.plain{h:Heap}(j:stI μ N h as i src):(∃I,as=[I]/\rx h I)\/∃e it,as=[e,it]/\rx h it/\∃o,h.get? e=some o/\iz o:=by
 cases src with
 |enum xs=>exact .inr (j.2.elim λe j=>j.elim λit j=>j.elim λt j=>j.elim λvs j=>j.elim λold j=>⟨e,it,j.1,.mk rfl j.2.2.2.2.2,_,j.2.2.2.2.1,z' (T:="enumerate") rfl rfl (by decide) (by decide)⟩)
 |_=>exact .inl (j.plain1 λY q=>nomatch q)
def rx.off{h:Heap}{I:Addr}(p:rx h I):∃o,h.get? I=some o/\iz o:=p.elim λo p=>⟨o,p.1,p.2.elim λT p=>p.elim λvs p=>z' p.1 p.2.1 (λe=>by rw[e]at p;exact absurd p.2.2 (by decide)) λe=>by rw[e]at p;exact absurd p.2.2 (by decide)⟩
def pN{h:Heap}(j:stI μ N h as i src):jS h as:=j.plain.elim (λp=>p.elim λI p a ha=>(bV.mp (p.1▸ha)).symm▸p.2.off) λp=>p.elim λe p=>p.elim λit p a ha=>(show a=e\/a=it from sA.mp (p.1▸ha)).elim (λq=>q.symm▸p.2.2) λq=>q.symm▸p.2.1.off
end
end
variable{B:Prop}
section
open AutoSeq1 (wpAny_loadPart')
def DP{it l:Addr}{i:Nat}{items}{x:ai}{Q:ai->ao->Prop}(hit:s.heap.IsTupleIter it l i)
 (hl:s.heap.IsTuple l items) (hx:items[i]? =some x)
 (hQ:∀h',h'.IsTupleIter it l (i+1)->uE it s.heap h'->Q x {s with heap:=h'}):
 aq (model prog w) A (Vz (.ref it)) Q E s:=by
 obtain⟨o,ho,hc,hd⟩:=id hit;obtain⟨ol,uy,_,nl,rn⟩:=hl;refine b8 (wpAny_callSpecial?_slot (name:=aM "__next__") hit.typeIs DQ
  (iW DQ hit.typeIs VA ?_ (VB _)))
 show aq _ _ (field (.ref it) 0 >>= _) _ _ s;refine wB (mX ho hd (x:=.ref l) rfl ?_);refine wB (mX ho hd (x:=.int i 0) rfl ?_);refine b8 (rg uy rn ?_);simp only[VC,hx];refine wB (wpAny_setField ho hd (by simp) (aF ⟨x,rfl,aF (hQ _ ?_ (Ab ..))⟩));exact⟨_,kY _ ho (Obj.isFreed_of_fields (VD hd _)),(Obj.cls_mapFields ..).trans hc,by
  rw[VD hd];simp[gf]⟩
def JW{it l:Addr}{i:Nat}{items}{Q:ai->ao->Prop}(hh:A.handled=none)
 (hit:s.heap.IsTupleIter it l i) (hl:s.heap.IsTuple l items) (hx:items[i]? =none)
 (hE:∀h' e,uF it s.heap h'->(∃o,h'.get? e=some o/\o.cls= .type "StopIteration")->E (.ref e) {s with heap:=h'}):
 aq (model prog w) A (Vz (.ref it)) Q E s:=by
 obtain⟨o,ho,hc,hd⟩:=id hit;obtain⟨ol,uy,_,nl,rn⟩:=hl;refine b8 (wpAny_callSpecial?_slot (name:=aM "__next__") hit.typeIs DQ
  (iW DQ hit.typeIs VA ?_ (VB _)))
 show aq _ _ (field (.ref it) 0 >>= _) _ _ s;refine wB (mX ho hd (x:=.ref l) rfl ?_);refine wB (mX ho hd (x:=.int i 0) rfl ?_);refine b8 (rg uy rn ?_);simp only[VC,hx];refine wB (mS (b8 (wpAny_setField ho hd (by simp) ?_)));refine wB ?_;refine wB (m:=firstArgMember _ _) (wpAny_of_eq (a:=jl) (by first|rfl|(rw[firstArgMember])) ?_);refine Ac ?_ (by size_fits);refine b8 (wpAny_handled ?_)
 first|rw[show A.in1.handled=none from hh]|rw[hh]
 refine b8 (aF (wpAny_throw ?_));exact hE _ _ (((Ab ..).extBut.push _).push _) ⟨_,dX _ rfl,rfl⟩
def VE{prog:eH}{w:bQ}{A:bB}(hh:A.handled=none)(it l:Addr)(ba:l≠it)(items:Array ai):
 Draws prog w A it [it,l] items.size (λi v=>items[i]? =some v) (λi h=>h.IsTupleIter it l i/\h.IsTuple l items) where
 live:=λY Y st=>st.1.imp λY h=>h.1
 frame:=λY Y Y st hk=>⟨st.1.at λo e=>hk it (by simp) o e,st.2.at λo e=>hk l (by simp) o e⟩
 item:=λi s Q E hi st hQ=>by exact DP st.1 st.2 (x:=items[i]) (by simp[hi]) λh' iX ff=>(hQ _ h' s.toks (by simp[hi]) ⟨iX,st.2.extBut ff.extBut ba⟩ ff)
 done:=λs Q E st hE=>JW hh st.1 st.2 (by simp) hE
def VF{prog:eH}{w:bQ}{A B:bB}{E E':ai->ao->Prop}{s:ao}{f:List (Code×Pos)->α}{Q:α->ao->Prop}(h:∀b,Q b s):aq (model prog w) A stack (λa s'=>aq (model prog w) B (pure (f a)) Q E' s') E s:=wpAny_stack_any λY=>aF (h _)
def VG(l:Addr)(items:Array ai)(n:Nat)(DR:Option Addr)(sl:Array (Option ai)):
 Meets (Builtin.«enumerate.__new__» ⟨[.type "enumerate",.ref l],[]⟩) (λY R s=>s.heap.get? l=some {cls:=.type "tuple",dict:=DR,data:=.seq items n,slots:=sl}/\R (.ok (.ret (.ref (s.heap.push {cls:=.type "tuple_iterator",data:=.fields #[.ref l,.int 0 0]}).objs.size)))
   {s with heap:=(s.heap.push {cls:=.type "tuple_iterator",data:=.fields #[.ref l,.int 0 0]}).push {cls:=.type "enumerate",data:=.fields #[.none,.bool false,.ref s.heap.objs.size,gf 0,.none,.none]}}):=
 .of_wp λprog w A R s h=>by
  obtain⟨hp,g,d,tk,os⟩:=s;obtain⟨hl,h⟩:=h;have gz:=sub_enumerate;have hL:JX (JY ⟨hp,g,d,tk,os⟩) l items:=⟨_,hl,rfl,n,rfl⟩
  wp_walk using wpAny_loadPart' hl
  refine VF λb=> ?_;cases b
  .wp_walk using wpAny_loadPart' hl,wpAny_pyIter_tuple hL
   exact⟨_,rfl,h⟩
  .wp_walk using wpAny_loadPart' hl,wpAny_pyIter_tuple hL
   exact⟨_,rfl,h⟩
variable{target:Expr}
section
variable{st:ah}
def VH{l:Addr}{items:Array ai}{Q:ai->ao->Prop}(hL:s.heap.IsTuple l items)
 (h:∀h',IsEnum h' (s.heap.objs.size+1) s.heap.objs.size 0 .none->h'.IsTupleIter s.heap.objs.size l 0->(∀b o,s.heap.get? b=some o->h'.get? b=some o)->Q (.ref (s.heap.objs.size+1)) {s with heap:=h'}):
 aq F.m A (call (.type "enumerate") [.ref l]) Q E s:=by
 obtain⟨⟨c,DR,dt,sl⟩,hl,hc,n,hd⟩:=hL;subst hc hd;refine callType_new PySem.F.called_enumerate rfl (PySem.F.typeCall_enumerate_1 _) (PySem.F.newCall_enumerate_1 _) (λobj=>PySem.F.args_object_init_2 obj _) PySem.F.entry_enumerate_new
  (VG l items n DR sl) ⟨hl, ?_⟩
 have hz:(s.heap.push {cls:=.type "tuple_iterator",data:=.fields #[.ref l,.int 0 0]}).objs.size=s.heap.objs.size+1:=sC ..;rw[hz];have he:IsEnum ((s.heap.push {cls:=.type "tuple_iterator",data:=.fields #[.ref l,.int 0 0]}).push
  {cls:=.type "enumerate",data:=.fields #[.none,.bool false,.ref s.heap.objs.size,gf 0,.none,.none]}) (s.heap.objs.size+1) s.heap.objs.size 0 .none:=by
  have:=dX (s.heap.push {cls:=.type "tuple_iterator",data:=.fields #[.ref l,.int 0 0]})
   (o:={cls:=.type "enumerate",data:=.fields #[.none,.bool false,.ref s.heap.objs.size,gf 0,.none,.none]}) rfl
  rw[hz]at this;exact this
 refine⟨⟨_,he,rfl⟩,h _ he ⟨_,cS _ (dX _ rfl),rfl,rfl⟩ λb o x=>cS _ (cS _ x)⟩
def fH:b∈[a]<->b=a:=bV
abbrev sD(F:Fix)(μ:Mp)(st:ah)(s:ao)(as:List Addr)(Q:Option ai->ao->Prop):Prop:=∀s',ar F μ st s'->(∀b o,b∉as->s.heap.get? b=some o->s'.heap.get? b=some o)->Q none s'
abbrev pO(F:Fix)(μ:Mp)(st:ah)(s:ao)(as:List Addr)(src:Src)(i:Nat)(Q:Option ai->ao->Prop)(v:V):Prop:=∀u s',ar F μ st s'->Step (·∈as) μ st.length s.heap μ st.length s'.heap->VR μ.ρ st.length s'.heap v u->sy μ st.length s'.heap as (i+1) u src->Q (some u) s'
section
variable{as:List Addr}{Q:Option ai->ao->Prop}{I:Addr}{tk:Nat}
def sD.go(h0:sD F μ st s as Q)(S:ar F μ st s)(io:eD F μ st.length s.heap as)(k:∀b o,b∉as->s.heap.get? b=some o->h'.get? b=some o):Q none {s with heap:=h',toks:=tk}:=h0 _ (S.jr (s':={s with heap:=h',toks:=tk}) io k rfl rfl) k
def pO.go(h1:pO F μ st s as src i Q v)(S:ar F μ st s)(io:eD F μ st.length s.heap as)(k:∀b o,b∉as->s.heap.get? b=some o->h'.get? b=some o)(hx:∀a∈as,∃o,h'.get? a=some o)(x:VR μ.ρ st.length s.heap v u)
 (m:Step (·∈as) μ st.length s.heap μ st.length h'->sy μ st.length h' as (i+1) u src):Q (some u) {s with heap:=h',toks:=tk}:=
 have T:=Step.jr io.off k hx
 h1 u _ (S.jr (s':={s with heap:=h',toks:=tk}) io k rfl rfl) T (T.VR x) (m T)
def pO.go'(h1:pO F μ st s as src i Q v)(S:ar F μ st s)(io:eD F μ st.length s.heap as)(k:∀b o,b∉as->s.heap.get? b=some o->h'.get? b=some o)(hx:∀a∈as,∃o,h'.get? a=some o)(x:Step (·∈as) μ st.length s.heap μ st.length h'->VR μ.ρ st.length h' v u)
 (m:Step (·∈as) μ st.length s.heap μ st.length h'->sy μ st.length h' as (i+1) u src):Q (some u) {s with heap:=h',toks:=tk}:=
 have T:=Step.jr io.off k hx
 h1 u _ (S.jr (s':={s with heap:=h',toks:=tk}) io k rfl rfl) T (x T) (m T)
def ry(e:as=[I])(hs:∀b o,b≠I->s.heap.get? b=some o->h'.get? b=some o):∀b o,b∉as->s.heap.get? b=some o->h'.get? b=some o:=λb o hb=>hs b o λq=>hb (e▸fH.mpr q)
def Ad(e:as=[I])(h:∃o,h'.get? I=some o):∀a∈as,∃o,h'.get? a=some o:=λa ha=>(fH.mp (e▸ha):a=I)▸h
def Ae(e:as=[I])(h:aq F.m A (pyNext (.ref I)) Q E s):aq F.m A (pyNext (.ref (as.headD 0))) Q E s:=e▸h
def aJ.qK{l:List V}{vs:List ai}(r:aJ μ.ρ st.length s.heap l vs)(h:l[i]? =none):vs.toArray[i]? =none:=by rw[sf,pP,r.length];exact pP.mp h
def VI{xs:List V}(hh:A.handled=none)(S:ar F μ st s)(io:eD F μ st.length s.heap as)(j:stI μ st.length s.heap as i (.list l))(e3:st[l]? =some (.list xs))(h0:xs[i]? =none->sD F μ st s as Q)(h1:∀v,xs[i]? =some v->pO F μ st s as (.list l) i Q v):
 aq F.m A (pyNext (.ref (as.headD 0))) Q E s:=by
 refine j.elim λI j=>Ae j.1 ?_;obtain⟨vs,L,rv,e⟩:=fV S e3;cases hx:xs[i]? with
 |none=>exact wpAny_pyNext_list_end hh j.2.2 L (rv.qK hx) λh' hs=>(h0 hx).go S io (ry j.1 λb o hb=>hs b o hb)
 |some v=>exact(rv.get hx).elim λu hu=>wpAny_pyNext_list_item j.2.2 L ((sf ..).trans hu.1) λh' iX hs=>(h1 v hx).go S io (ry j.1 λb o hb e=>(hs.2 b hb).trans e) (Ad j.1 (iX.elim λo q=>⟨o,q.1⟩)) hu.2 λY=>⟨I,j.1,j.2.1,iX⟩
def VJ{ep:Nat}{kvs:List (V×V)}(hh:A.handled=none)(S:ar F μ st s)(io:eD F μ st.length s.heap as)(j:stI μ st.length s.heap as i (.dict l n ep))(e3:st[l]? =some (.dict kvs (some ep)))(hn:kvs.length=n)(hk:kvs.all (λp=>p.1.isInt)=true)
 (h0:kvs[i]?.map (·.1)=none->sD F μ st s as Q) (h1:∀v,kvs[i]?.map (·.1)=some v->pO F μ st s as (.dict l n ep) i Q v):aq F.m A (pyNext (.ref (as.headD 0))) Q E s:=by
 refine j.elim λI j=>Ae j.1 ?_;obtain⟨es,m,wx,hd,rr,nd,fW,lW⟩:=dictAt S e3;refine(rr.zo (F:=F) hk nd).elim λks K=> ?_;have D:s.heap.DictAt (cV F.prog F.w) (μ.ρ l) ks ep:=⟨_,_,hd,⟨rfl,rfl,rfl⟩,lW ep rfl▸rfl,λe he=>K.k e (wb.mp he),by simpa using K.p,K.nd⟩;have hlen:=hn▸(aP ..).symm.trans ((congrArg n7 K.e).trans (aP ..));have hit:=hlen▸j.2.2;have he:(ks.map λp=>V.int p.1)[i]? =kvs[i]?.map (·.1):=K.e▸fh ..;cases hx:ks[i]? with
 |none=>exact wpAny_pyNext_dict_end hh hit D hx λh' hs=>(h0 (he▸(fh ..).trans (hx▸rfl))).go S io (ry j.1 λb o hb=>hs b o hb)
 |some p=>exact wpAny_pyNext_dict_item hit D hx λkey h' VK iX hs=>((Dw VK).elim λt et=>((h1 (.int p.1) (he▸(fh ..).trans (hx▸rfl))).go S io (ry j.1 λb o hb e=>(hs.2 b hb).trans e) (Ad j.1 (iX.elim λo q=>⟨o,q.1⟩)) (et▸ .int p.1 t) λY=>⟨I,j.1,j.2.1,hlen▸iX⟩))
def VL{xs:List V}(hh:A.handled=none)(S:ar F μ st s)(io:eD F μ st.length s.heap as)(j:stI μ st.length s.heap as i (.items xs))(h0:xs[i]? =none->sD F μ st s as Q)(h1:∀v,xs[i]? =some v->pO F μ st s as (.items xs) i Q v):
 aq F.m A (pyNext (.ref (as.headD 0))) Q E s:=by
 refine j.elim (λj=>j.elim λI j=>j.elim λt j=>j.elim λvs j=>Ae j.1 ?_) λj=>j.elim λI j=>j.elim λn j=>Ae j.1 ?_
 .obtain⟨e,ht,rv,hit⟩:=j;cases hx:xs[i]? with
  |none=>exact wpAny_pyNext_tuple_end hh hit ht (rv.qK hx) λh' hs=>(h0 hx).go S io (ry e λb o hb=>hs b o hb)
  |some v=>exact(rv.get hx).elim λu hu=>wpAny_pyNext_tuple_item hit ht ((sf ..).trans hu.1) λh' iX hs=>(h1 v hx).go S io (ry e λb o hb e=>(hs.2 b hb).trans e) (Ad e (iX.elim λo q=>⟨o,q.1⟩)) hu.2 λT=>.inl ⟨I,t,vs,e,T.kQ.tup _ _ ht,T.aJ rv,iX⟩
 .obtain⟨e,ex,hr⟩:=j;by_cases hi:i<n
  .refine wpAny_pyNext_range_item hr (Int.sub_pos_of_lt (jm.mpr hi)) λh' iX hs=>(h1 _ (by rw[ex];simp[hi])).go S io (ry e λb o hb e=>(hs.2 b hb).trans e) (Ad e ⟨_,iX⟩) (.int i _) λY=>.inr ⟨I,n,e,ex, ?_⟩;have e2:(n:Int)-((i+1:Nat):Int)=(n:Int)-(i:Int)-1:=(Int.sub_sub n i 1).symm;rw[e2];exact iX
  .exact wpAny_pyNext_range_end hh hr (Int.sub_nonpos_of_le (sa.mpr (fT.mp hi))) λh' hs=>(h0 (by rw[ex];simp;(exact aG af ak [.l af ak] rfl (fT.mp hi)))).go S io (ry e λb o hb=>hs b o hb)
def JZ{h:Heap}{t:Addr}{items:Array ai}(ht:h.IsTuple t items)(x:∃o,h.get? a=some o/\o.cls= .type T)(hT:T≠"tuple"):t≠a:=λe=>by
 obtain⟨o,ho,hc,_⟩:=ht;obtain⟨o',fY,jk⟩:=x;rw[<-e,ho]at fY;rw[<-bF fY,hc]at jk;exact hT (pq jk).symm
def VM{xs:List V}(hh:A.handled=none)(S:ar F μ st s)(io:eD F μ st.length s.heap as)(j:stI μ st.length s.heap as i (.enum xs))(h0:xs[i]? =none->sD F μ st s as Q)(h1:∀y,xs[i]? =some y->pO F μ st s as (.enum xs) i Q (.tup [.int i,y])):
 aq F.m A (pyNext (.ref (as.headD 0))) Q E s:=by
 obtain⟨hle,j⟩:=j;refine j.elim λe j=>j.elim λit j=>j.elim λt j=>j.elim λvs j=>j.elim λold j=> ?_;obtain⟨ea,ba,ht,rv,he,hit⟩:=j;have D:=VE (prog:=F.prog) (w:=F.w) (A:=A.in1) hh it t (JZ ht (hit.elim λo q=>⟨o,q.1,q.2.1⟩) (by decide)) vs.toArray;have hz:vs.toArray.size=xs.length:=by rw[rv.length]
 have kk:∀{h':Heap},(∀b o,b≠e->b≠it->s.heap.get? b=some o->h'.get? b=some o)->∀b o,b∉as->s.heap.get? b=some o->h'.get? b=some o:=λkk b o hb=>kk b o (λq=>hb (by rw[ea,q];simp)) (λq=>hb (by rw[ea,q];simp));refine(ea▸ ?_:aq F.m A (pyNext (.ref (as.headD 0))) Q E s);by_cases hi:i<xs.length
 .have hx:xs[i]? =some xs[i]:=dS hi;refine(rv.get hx).elim λu hu=>wpAny_pyNext_enum_itemD D he ⟨hit,ht⟩ (by exact bq bD af [.q af ak,.l bD ak] rfl hz hi) ba (λhm=>(bU.mp hm).elim ba λq=>(JZ ht ⟨_,he,rfl⟩ (by decide)) (fH.mp q).symm) λy h' tk hy wM sE hT hsz k=> ?_;refine(h1 _ hx).go' S io (kk λb o h1 h2=>k b o h1 h2) (λa ha=> ?_) (λT=>.tup (vs:=[.int i tk,y]) ⟨_,hT,rfl,_,rfl⟩ (.cons (.int i tk) (.cons ((bF (hu.1.symm.trans ((sf ..).symm.trans hy)))▸T.VR hu.2) .nil))) λT=>⟨hi,e,it,t,vs,y,_,ea,ba,rfl,sE.2,T.aJ rv,by exact wM,sE.1⟩;rw[ea]at ha;rcases bU.mp ha with q|q
  .exact⟨_,q▸wM⟩
  .exact(fH.mp q)▸sE.1.elim λo r=>⟨o,r.1⟩
 .have lV:i=vs.toArray.size:=by exact dU (bq af av [.l af ak,.q av ak] rfl hle hz) (bq af av [.e af ak,.l ak av] rfl hz (fT.mp hi))
  refine wpAny_pyNext_enum_endD D (lV▸he) (lV▸⟨hit,ht⟩) λh' hs=>(h0 (pP.mpr (by exact aG af ak [.l af ak] rfl (fT.mp hi)))).go S io (kk λb o Y h2=>hs b o h2)
private def Af(O:Ok F)(hh:A.handled=none)(S:ar F μ st s)(io:eD F μ st.length s.heap as)(j:stI μ st.length s.heap as i src)(h:nX src i st=some (r,U))(h0:r=none->sD F μ st s as Q)(h1:∀v,r=some v->pO F μ st s as src i Q v):
 st=U/\aq F.m A (pyNext (.ref (as.headD 0))) Q E s:=by
 cases src with
 |items xs=>obtain⟨e,e'⟩:=rt_some h;exact⟨e',VL hh S io j (λq=>h0 (e▸q)) λv q=>h1 v (e▸q)⟩
 |enum xs=>
  obtain⟨e,e'⟩:=rt_some h;exact⟨e',VM hh S io j (λq=>h0 (by rw[<-e,q];rfl)) λv q=>h1 _ (by rw[<-e,q];rfl)⟩
 |list l=>
  refine bc h λo au e1 e2=> ?_;obtain⟨e3,e4⟩:=getO_some e1;subst e4;cases o<;>first|exact noNS e2|skip
  obtain⟨e,e'⟩:=rt_some e2;exact⟨e',VI hh S io j e3 (λq=>h0 (e▸q)) λv q=>h1 v (e▸q)⟩
 |dict l n ep=>
  refine bc h λo au e1 e2=> ?_;obtain⟨e3,e4⟩:=getO_some e1;subst e4;cases o<;>first|exact noNS e2|skip
  rename_i kvs dY;have eX:(if kvs.length=n/\dY=some ep/\kvs.all (λp=>p.1.isInt)then rt (kvs[i]?.map (·.1))else er) st=some (r,U):=e2;by_cases hc:kvs.length=n/\dY=some ep/\kvs.all (λp=>p.1.isInt)
  .rw[if_pos hc]at eX;obtain⟨e,e'⟩:=rt_some eX;exact⟨e',VJ hh S io j (hc.2.1▸e3) hc.1 hc.2.2 (λq=>h0 (e▸q)) λv q=>h1 v (e▸q)⟩
  .rw[if_neg hc]at eX;exact noNS eX
end
def DS{e:Expr}(h:isTup e=true)(k:∀ts k p,e= .Tuple ts k p->C):C:=by
 have q:=og e;unfold isTup at h;cases hc:cl e with
 |tup ts=>rw[hc]at q;exact q.elim λk' q=>q.elim λp q=>k ts k' p q
 |_=>rw[hc]at h;exact cu h
abbrev VN(it v:ai):Sem Unit:=do
 let(.ref r,.ref a):=(it,v)|return
 let o <-load r
 match o.cls,o.data with
 |.type n,.fields vs=>
  if["enumerate","zip","dict_itemiterator","dict_reverseitemiterator","odict_iterator","itertools.zip_longest","itertools.pairwise"].contains n && vs[0]? ==some (gf a)then
   rule "for.unpacks-the-owned-tuple"
   updateField r 0 .none
 |_,_=>pure ()
def VO{it v:ai}:∀target:Expr,rz target it v=pure ()\/rz target it v=VN it v:=λtarget=>by
 cases target<;>first|exact .inl rfl|exact .inr rfl
def VP{it:Addr}{v:ai}{Q:Unit->ao->Prop}{n:String}(ho:s.heap.get? it=some o)(hc:o.cls= .type n)(hd:o.data= .fields vs)
 (hn:(["enumerate","zip","dict_itemiterator","dict_reverseitemiterator","odict_iterator","itertools.zip_longest","itertools.pairwise"].contains n)=false) (h:Q () s):aq F.m A (rz target (.ref it) v) Q E s:=by
 refine(VO target).elim (λe=>e▸aF h) λe=>e▸ ?_;clear e;cases v<;>first|exact aF h|skip
 refine b8 (wpAny_load ho ?_);rw[hc,hd];show aq _ A (if _ then _ else _) Q E s;rw[if_neg (by rw[hn];exact pQ)];exact aF h
def DT{v:ai}{Q:Unit->ao->Prop}{as:List Addr}(p:∃I,as=[I]/\rx s.heap I)(h:Q () s):aq F.m A (rz target (.ref (as.headD 0)) v) Q E s:=
 p.elim λI p=>p.1▸p.2.elim λo p=>p.2.elim λT q=>q.elim λvs q=>VP p.1 q.1 q.2.1 (by
  have h2:∀T∈["list_iterator","dict_keyiterator","tuple_iterator","range_iterator"],(["enumerate","zip","dict_itemiterator","dict_reverseitemiterator","odict_iterator","itertools.zip_longest","itertools.pairwise"].contains T)=false:=by decide
  exact h2 T (List.contains_iff_mem.mp q.2.2)) h
def VQ(S:ar F μ st s){i:Nat}{as:List Addr}{ts:List Expr}{xs:List V}{u:ai}{Q:Unit->ao->Prop}(io:eD F μ st.length s.heap as)(j:sy μ st.length s.heap as i u (.enum xs))
 (h:∀s',ar F μ st s'->Step (·∈as) μ st.length s.heap μ st.length s'.heap->stI μ st.length s'.heap as i (.enum xs)->Q () s'):aq F.m A (rz (.Tuple ts k p) (.ref (as.headD 0)) u) Q E s:=by
 obtain⟨hle,j⟩:=j;refine j.elim λe j=>j.elim λit j=>j.elim λt j=>j.elim λvs j=>j.elim λx j=>j.elim λT j=> ?_;obtain⟨ea,ba,eu,VS,hv,he,hit⟩:=j;rw[eu,show as.headD 0=e by rw[ea];rfl];refine wpAny_letOwnedTupleGo_enum he λh' wM hs=> ?_;have k:∀b o,b∉as->s.heap.get? b=some o->h'.get? b=some o:=λb o hb ee=>(hs.2 b (λq=>hb (ea▸sA.mpr (.inl q)))).trans ee;have iX:h'.IsTupleIter it t i:=hit.elim λo r=>⟨o,(hs.2 it (b0 ba)).trans r.1,r.2⟩;have Ts:Step (·∈as) μ st.length s.heap μ st.length h':=Step.jr io.off k λa ha=>(show a=e\/a=it from sA.mp (ea▸ha)).elim (λq=>⟨_,q▸wM⟩) λq=>q▸iX.elim λo r=>⟨o,r.1⟩;exact h _ (S.jr (s':={s with heap:=h'}) io k rfl rfl) Ts ⟨hle,e,it,t,vs,x,ea,ba,Ts.kQ.tup _ _ VS,Ts.aJ hv,wM,iX⟩
def J0(S:ar F μ st s){src:Src}{i:Nat}{as:List Addr}{u:ai}{Q:Unit->ao->Prop}(io:eD F μ st.length s.heap as)(j:sy μ st.length s.heap as i u src)(ht:∀xs,src= .enum xs->isTup target=true)
 (h:∀s',ar F μ st s'->Step (·∈as) μ st.length s.heap μ st.length s'.heap->stI μ st.length s'.heap as i src->Q () s'):aq F.m A (rz target (.ref (as.headD 0)) u) Q E s:=by
 cases src with
 |enum xs=>exact DS (ht xs rfl) λts k p e=>e▸VQ S io j h
 |list l=>exact DT (stI.plain1 (src:=.list l) j λY q=>nomatch q) (h s S (Step.refl ..) j)
 |dict l n ep=>exact DT (stI.plain1 (src:=.dict l n ep) j λY q=>nomatch q) (h s S (Step.refl ..) j)
 |items xs=>exact DT (stI.plain1 (src:=.items xs) j λY q=>nomatch q) (h s S (Step.refl ..) j)
end
end
section
def VT:typeLookup (.type "list") "keys"=pure none:=am_miss_of_fast rfl
def VU:typeLookup (.type "list") "__getattr__"=pure none:=am_miss_of_fast rfl
section
variable{h:Heap}{d:Drawn}{os:OsState}
def VV{P:PySem.Fin->ao->Prop}(hx:h.get? a=some (DU vs n))(hh:A.handled=none)
 (k:∀h' tk e,J1 h h' e (.ref a) "keys"->E (.ref e) ⟨h',g,d,tk,os⟩):aq (model prog w) A (Builtin.«object.__getattribute__» ⟨[.ref a,.str "keys" tk],[]⟩) P E ⟨h,g,d,t,os⟩:=by
 have hT:(⟨h,g,d,t,os⟩:ao).TypeIs (.ref a) "list":=⟨_,hx,rfl⟩;have f4:=VT
 repeat(any_goals(first|assumption|wp_step))
 refine wpAny_raiseAttrError hh (λh' tk e x=> ?_) ?_
 .exact k h' tk e x
 .exact attrMsg_fits (by decide+kernel) (by decide+kernel)
def VW(hx:h.get? a=some (DU vs n))(hh:A.handled=none)
 (k:∀h' tk e,J1 h h' e (.ref a) "keys"->R (.error (.ref e)) ⟨h',g,d,tk,os⟩):
 iV (model prog w) A (.call (.builtin "list.__getattribute__") ⟨[.ref a,.str "keys" tk],[]⟩) R ⟨h,g,d,t,os⟩:=codeAny_call_builtin DV.plain F.entry_list_ga (DV.check _ _ _ _ _ _ _ _ (show(⟨h,g,d,t,os⟩:ao).TypeIs (.ref a) "list" from⟨_,hx,rfl⟩) (F.args_list_getattribute_2 _ _) (VV hx hh k))
def VX(hx:h.get? a=some (DU vs n))(hh:A.handled=none)
 (k:∀h' tk e,J1 h h' e (.ref a) "keys"->E (.ref e) ⟨h',g,d,tk,os⟩):aq (model prog w) A (getAttrBy (.ref a) (.str "keys" tk) false) Q E ⟨h,g,d,t,os⟩:=by
 have f1:=sub_AttributeError;have f2:=DV.lookup;have f3:=DV.bind (.ref a);have f5:=VU
 repeat(any_goals(first|assumption|wp_step))
 refine VW hx hh λh' DW e hx=> ?_;obtain⟨t',u',he⟩:=hx.there
 repeat(any_goals(first|assumption|wp_step))
 exact k _ _ _ hx
def VY{Q:Option ai->ao->Prop}(hx:h.get? a=some (DU vs n))(hh:A.handled=none)
 (k:∀h' tk,(∀b ob,h.get? b=some ob->h'.get? b=some ob)->Q none ⟨h',g,d,tk,os⟩):aq (model prog w) A (getAttr? (.ref a) "keys") Q E ⟨h,g,d,t,os⟩:=by
 refine wB (wpAny_mkText ?_);refine wB (wpAny_attempt (VX hx hh λh' DW e y=> ?_));obtain⟨t',u',he⟩:=y.there;refine wB (wpAny_isInstance (⟨_,he,rfl⟩) sub_AttributeError ?_);exact aF (k _ _ y.keeps)
end
end
variable{h1 h2:Heap}
section
def J2:entryFor table "dict.update.loop"=some Builtin.«dict.update.loop»:=entryFor_of_tree rfl
def J3:plainId "dict.update.loop"=true:=by decide+kernel
section
variable{st:ah}
def VZ{k:V}{i:Unit}{xs:List V}(h:eU dv k v st=some (i,U))(hl:st[l]? =some (.list xs)):U[l]? =some (.list xs):=
 Dr h λl' kvs ep dY Y bY Y uo Y=>by rw[uo,mN (λe=>by rw[e,hl]at bY;cases bY)];exact hl
def two2_some{l:List V}{p:V×V}(h:Ig l=some p):l=[p.1,p.2]:=by
 cases l with
 |nil=>exact noNS h
 |cons k r=>
  cases r with
  |nil=>exact noNS h
  |cons w r=>
   cases r with
   |nil=>rw[<-bF (show some (k,w)=some p from h)]
   |cons=>exact noNS h
def pairOf_some{p:V×V}(h:pairOf v=some p):v= .tup [p.1,p.2]:=by
 cases v<;>first|exact noNS h|exact congrArg V.tup (two2_some h)
def V0{r:List V}{ps:List (V×V)}(h:pairsOf (v::r)=some ps):∃k w wN,v= .tup [k,w]/\pairsOf r=some wN/\ps=(k,w)::wN:=(fg.mp h).elim λp h=>(gV.mp h.2).elim λwN h2=>⟨p.1,p.2,wN,pairOf_some h.1,h2.1,h2.2.symm⟩
abbrev V1(F:Fix)(I:Addr)(μ:Mp)(N:Nat)(h:Heap)(U:ah)(R:Result->ao->Prop):Prop:=∀(aI:Mp) (s1 s':ao),ar F aI U s'->Step (·∈[I]) μ N h aI U.length s1.heap->jS s1.heap [I]->(∀b o,b∉[I]->s1.heap.get? b=some o->s'.heap.get? b=some o)->R (.ok (.ret .none)) s'
def J4{xs:List V}(hl:st[l]? =some (.list xs)):nX (.list l) i st=some (xs[i]?,st):=by
 have e:dQ l st=some (.list xs,st):=by unfold dQ;rw[hl]
 show bd (dQ l) (λo=>match o with|.list xs=>rt xs[i]? |_=>er) st=_;unfold bd;rw[e];rfl
def V2{k w:V}(x:VR μ.ρ st.length s.heap (.tup [k,w]) u):∃a ky z,u= .ref a/\s.heap.IsTuple a #[ky,z]/\VR μ.ρ st.length s.heap k ky/\VR μ.ρ st.length s.heap w z:=x.out.elim λa q=>q.elim λvs q=>q.2.2.iq λky vs1 e1 xk h1=>h1.iq λz vs2 e2 xw h2=>⟨a,ky,z,q.1,by have e3:=h2.lM;subst e1 e2 e3;exact q.2.1,xk,xw⟩
def V3(O:Ok F)(hh:A.handled=none)(hu:A.in1.units+8<cLine){I:Addr}{xs:List V}:∀{ys:List V} {ps:List (V×V)} {i:Nat} {st U:ah} {μ:Mp} {s:ao} {q:Unit},pairsOf ys=some ps->xs.drop i=ys->ar F μ st s->VR μ.ρ st.length s.heap dv (.ref d)->eD F μ st.length s.heap [I]->stI μ st.length s.heap [I] i (.list l)->st[l]? =some (.list xs)->jf dv ps st=some (q,U)->V1 F I μ st.length s.heap U R->iV F.m A (.builtin "dict.update.loop" ⟨[.ref d,.ref I,gf i,.none],[]⟩) R s:=by
 intro ys;induction ys with
 |nil=>
  intro ps i st U μ s q hp hd S xd io j hl h P;rw[<-bF (show some []=some ps from hp)]at h;have e:=(rt_some h).2;subst e;refine mY J2 ?_;refine wB ?_;have hx:xs[i]? =none:=by rw[pP];have:=congrArg n7 hd;rw[J5,wO]at this;exact J6 this
  refine(Af O (A:=A.in1) hh S io j (r:=none) (U:=st) (hx▸J4 hl) (λY s' S' k=> ?_) (λv e=>nomatch e)).2;exact wB (aF (aF (P μ s s' S' (Step.refl ..) io.off k)))
 |cons v r ih=>
  intro ps i st U μ s q hp hd S xd io j hl h P;refine(V0 hp).elim λk e=>e.elim λw e=>e.elim λwN e=> ?_;obtain⟨ev,DX,ep⟩:=e;rw[ep]at h;refine bc h λY au h1 h2=> ?_;have hx:xs[i]? =some (.tup [k,w]):=by rw[<-List.head?_drop,hd,ev];rfl
  have qY:xs.drop (i+1)=r:=by rw[<-List.tail_drop,hd];rfl
  refine mY J2 ?_;refine wB ?_;refine(Af O (A:=A.in1) hh S io j (r:=some (.tup [k,w])) (U:=st) (hx▸J4 hl) (λe=>nomatch e) (λv e u s' S' T' x j'=> ?_)).2;refine(V2 (bF e▸x)).elim λa q=>q.elim λky q=>q.elim λz q=> ?_;obtain⟨eu,ht,xk,xw⟩:=q;rw[eu];refine wB (dD ?_);refine wB (wpAny_tryCatch ?_);unfold Builtin.Dict.pairItems;refine b8 (wpAny_typeOf ht.typeIs ?_);rw[if_pos (by decide)];refine wB ?_;obtain⟨ot,DY,V4,nt,zL⟩:=ht;unfold seqItems?;refine b8 (wpAny_load DY ?_);rw[zL];refine aF (aF ?_);dsimp only[Option.getD];refine dD ?_;have J7:eD F μ st.length s'.heap [I]:=⟨io.out,io.σ,pN (src:=.list l) j'⟩;refine Ds S' hu h1 (T'.VR xd) xk xw λbI s2 S2 T2=> ?_;refine aF ⟨pR J3 _, ?_⟩;rw[show((i:Int)+1)=((i+1:Nat):Int)from rfl];exact ih DX qY S2 (T2.VR (T'.VR xd)) (J7.step T2 λY Y q=>q) (stI.step (src:=.list l) j' T2 (λY Y q=>q) J7.σ) (VZ h1 hl) h2 λgy s1 s3 S3 T3 o3 k3=>
   P gy s1 s3 S3 ((T'.trans (T2.weaken λY Y Y q=>q.elim)).trans T3) o3 k3
def ar.V5(S:ar F μ st s):ar F (μ.put st.length s.heap.objs.size s.heap.objs.size) (st++[.dict [] (some 0)]) {s with heap:=s.heap.push {cls:=.type "dict",data:=.dict #[]},toks:=t}/\Step cq μ st.length s.heap (μ.put st.length s.heap.objs.size s.heap.objs.size) (st++[O.dict [] (some 0)]).length (s.heap.push {cls:=.type "dict",data:=.dict #[]})/\VR (μ.put st.length s.heap.objs.size s.heap.objs.size).ρ (st++[O.dict [] (some 0)]).length (s.heap.push {cls:=.type "dict",data:=.dict #[]}) (.ab st.length) (.ref s.heap.objs.size):=by
 have k:∀b o',s.heap.get? b=some o'->(s.heap.push {cls:=.type "dict",data:=.dict #[]}).get? b=some o':=λb o' e=>cS _ e;obtain⟨S',T'⟩:=S.alloc (s':={s with heap:=s.heap.push {cls:=.type "dict",data:=.dict #[]},toks:=t}) (r:=s.heap.objs.size) (a:=s.heap.objs.size) (o:=.dict [] (some 0)) k rfl rfl (pE _)
  ⟨if_pos rfl,[],0,dX _ rfl,.nil,trivial,dJ _,λe q=>by cases q;rfl⟩
 refine⟨S',T', ?_⟩;have:VR (μ.put st.length s.heap.objs.size s.heap.objs.size).ρ (st++[O.dict [] (some 0)]).length (s.heap.push {cls:=.type "dict",data:=.dict #[]}) (.ab st.length) (.ref ((μ.put st.length s.heap.objs.size s.heap.objs.size).ρ st.length)):=.ab (by simp);simpa[Mp.put]using this
def V6(S:ar F μ st s){as:List Addr}(hf:∀a∈as,s.heap.get? a=none)(ho:jS s'.heap as):eD F μ st.length s'.heap as:=by
 refine⟨λa ha=> ?_,λa ha l hl e=> ?_,ho⟩
 .cases q:F.h₀.get? a with
  |none=>rfl
  |some o=>have:=S.base _ _ q;rw[hf a ha]at this;cases this
 .obtain⟨o,g,_⟩:=S.payload hl;rw[e,hf a ha]at g;cases g
def Step.V7{as:List Addr}{h:Heap}(T:Step (λb=>X b\/b∈as) μ N h aI N' h1)(io:jS h1 as)(k:∀b o,b∉as->h1.get? b=some o->h2.get? b=some o)(fr:∀a∈as,h.get? a=none):Step X μ N h aI N' h2:=by
 have sF:∀b o,h.get? b=some o->b∉as:=λb o e hb=>by rw[fr b hb]at e;cases e
 exact⟨T.len,T.ρ,T.σ,T.new,λb o e hX gc=>k b o (sF b o e) (T.keep b o e (λq=>q.elim hX (sF b o e)) gc),λb o e=>(T.mJ b o e).imp λo' e'=>k b o' (sF b o e) e',T.kQ.trans (wL io k)⟩
def V8(O:Ok F)(S:ar F μ st s){xs:List V}{ps:List (V×V)}(R:cy A 1)(h0:st[l]? =some (.list xs))(hp:pairsOf xs=some ps)
 (h:(bd (je (.dict [] (some 0))) λd=>bd (jf d ps) λY=>rt d) st=some (v,U)) (P:aR F μ st s U v Q):aq F.m A (call (.type "dict") [.ref (μ.ρ l)]) Q E s:=by
 obtain⟨d,au,h1,h2⟩:=bd_some h;obtain⟨rfl,rfl⟩:=newO_some h1;obtain⟨q,aH,h5,h6⟩:=bd_some h2;obtain⟨rfl,rfl⟩:=rt_some h6;obtain⟨S1,T1,x1⟩:=S.V5 (t:=s.toks);have hl:=(b9.mp h0).1;refine callType_codes (Q₁:=λobj dO=>obj= .ref s.heap.objs.size/\dO={s with heap:=s.heap.push {cls:=.type "dict",data:=.dict #[]}}) PySem.F.kt_called_dict (PySem.F.kt_typeCall_dict_1 _) PySem.F.entry_dict_init (kt_code_dict_new _ ⟨rfl,rfl⟩) ?_;rintro obj dO ⟨rfl,rfl⟩;have hT:({s with heap:=s.heap.push {cls:=.type "dict",data:=.dict #[]}}:ao).TypeIs (.ref s.heap.objs.size) "dict":=⟨_,dX _ rfl,rfl⟩;refine⟨hT,PySem.F.args_dict_init_2 _ _, ?_⟩;have jO:(st++[Internal.O.dict [] (some 0)])[l]? =some (.list xs):=by rw[oe hl];exact h0
 obtain⟨e1,vs,n,g,rv,_⟩:=S1.obj l _ jO;have er:=T1.ρ l hl;rw[<-e1,er]at g;refine wB ?_;refine wB (wpAny_notOrdered_dict hT ?_);refine aF ?_;refine wB (wpAny_typeOf (T:="list") ⟨_,g,rfl⟩ ?_);refine wB ?_;refine VY g R.handled λh' tk k=> ?_;refine wB (mS ?_);have S2:=S1.keeps (s':={s with heap:=h',toks:=tk}) k rfl rfl;refine wB (wpAny_pyIter_list (s:={s with heap:=h',toks:=tk}) (⟨_,k _ _ g,rfl,n,rfl⟩) ?_);have k2:∀b o',h'.get? b=some o'->(h'.push {cls:=.type "list_iterator",data:=.fields #[.ref (μ.ρ l),.int 0 0]}).get? b=some o':=λb o' e=>cS _ e;have S3:=S2.keeps (s':={s with heap:=h'.push {cls:=.type "list_iterator",data:=.fields #[.ref (μ.ρ l),.int 0 0]},toks:=tk}) k2 rfl rfl;have j:stI (μ.put st.length s.heap.objs.size s.heap.objs.size) (st++[Internal.O.dict [] (some 0)]).length (h'.push {cls:=.type "list_iterator",data:=.fields #[.ref (μ.ρ l),.int 0 0]}) [h'.objs.size] 0 (.list l):=⟨_,rfl,by rw[bM];(exact bq az ie [.l az ak] rfl hl),by rw[er];exact⟨_,dX _ rfl,rfl,rfl⟩⟩;have hf:∀a∈[h'.objs.size],h'.get? a=none:=λa ha=>by rw[bV.mp ha];exact pE _
 have io:=V6 (s':={s with heap:=h'.push {cls:=.type "list_iterator",data:=.fields #[.ref (μ.ρ l),.int 0 0]},toks:=tk}) S2 hf (pN j);have uG:A.in1.in1.units+8<cLine:=by(exact aG (.add (.add (.add az aX) kH) aX) ak [.l (.add (.add (.add af (.mulL 10 aX)) kG) aX) ak] rfl R.units)
 refine aF ⟨pR J3 _, ?_⟩;refine V3 (A:=A.in1) (i:=0) O R.handled uG hp rfl S3 (x1.mono (λY Y=>rfl) (bG _) (cM.of_keeps λb o e=>k2 _ _ (k _ _ e))) io j jO h5 λDZ s1 s4 S4 T4 o4 k4=>⟨rfl, ?_⟩;have kk:∀b o,(s.heap.push {cls:=.type "dict",data:=.dict #[]}).get? b=some o->(h'.push {cls:=.type "list_iterator",data:=.fields #[.ref (μ.ρ l),.int 0 0]}).get? b=some o:=λb o e=>k2 _ _ (k _ _ e);have wQ:∀a∈[h'.objs.size],(s.heap.push {cls:=.type "dict",data:=.dict #[]}).get? a=none:=λa ha=>by
  cases e:(s.heap.push {cls:=.type "dict",data:=.dict #[]}).get? a with
  |none=>rfl
  |some o=>have:=k _ _ e;rw[hf a ha]at this;cases this
 have T5:=Step.V7 (X:=cq) (((Step.of_keeps kk).trans T4).weaken λY Y Y q=>.inr q) o4 k4 wQ;exact P DZ s4 _ S4 (T1.trans T5) (T5.VR x1)
end
end
variable{S:Addr}
section
@[reducible]abbrev Ah(h:Heap)(l1:Addr):Heap:=h.push {cls:=.type "tuple_iterator",data:=.fields #[.ref l1,.int 0 0]}
@[reducible]abbrev Ai(h:Heap)(l1 l2:Addr):Heap:=(Ah h l1).push {cls:=.type "tuple_iterator",data:=.fields #[.ref l2,.int 0 0]}
@[reducible]abbrev Aj(h:Heap)(l1 l2:Addr):Heap:=(Ai h l1 l2).push {cls:=.type "tuple",data:=.seq #[.ref h.objs.size,.ref (Ah h l1).objs.size]}
@[reducible]abbrev Ak(h:Heap)(l1 l2:Addr):Heap:=(Aj h l1 l2).push {cls:=.type "tuple",data:=.seq #[.none,.none]}
@[reducible]abbrev rA(h:Heap)(l1 l2:Addr):Heap:=(Ak h l1 l2).push {cls:=.type "zip",data:=.fields #[.none,.bool false,.bool false,.ref (Ai h l1 l2).objs.size,.ref (Aj h l1 l2).objs.size]}
def V9(l1 l2:Addr)(xs ys:Array ai):
 Meets (Builtin.«zip.__new__» ⟨[.type "zip",.ref l1,.ref l2],[]⟩) (λY R s=>s.heap.IsTuple l1 xs/\s.heap.IsTuple l2 ys/\R (.ok (.ret (.ref (Ak s.heap l1 l2).objs.size))) {s with heap:=rA s.heap l1 l2}):=
 .of_wp λprog w A R s h=>by
  obtain⟨hp,g,d,tk,os⟩:=s;obtain⟨dp,eg,h⟩:=h;have gz:=PySem.sub_zip;have D0:JX (JY ⟨hp,g,d,tk,os⟩) l1 xs:=dp;have uH:JX (JY ⟨hp.push {cls:=.type "tuple_iterator",data:=.fields #[.ref l1,.int 0 0]},g,d,tk,os⟩) l2 ys:=Heap.IsTuple.push eg _
  wp_walk using wpAny_pyIter_tuple D0,wpAny_pyIter_tuple uH
  exact⟨_,rfl,h⟩
def V':typeLookup (.type "zip") "__len__"=pure none:=by kernel_rfl
def Wa:typeLookup (.type "zip") "__length_hint__"=pure none:=by kernel_rfl
structure uI(h:Heap)(N l1 l2:Addr)(x y:ai)(i:Nat)(a b:ai):Prop where
 z:IsZip h (N+4) (N+2) (N+3) .none
 TI:IsPair h (N+2) (.ref N) (.ref (N+1))
 TO:IsPair h (N+3) a b
 i1:h.IsTupleIter N l1 i
 i2:h.IsTupleIter (N+1) l2 i
 l1:h.IsTuple l1 #[x]
 l2:h.IsTuple l2 #[y]
abbrev ZK(N:Addr)(h h':Heap):Prop:=∀c o,c≠N+4->c≠N+3->c≠N->c≠N+1->h.get? c=some o->h'.get? c=some o
def uJ{N:Nat}(h:i≠j):N+i≠N+j:=λe=>h (Wb e)
def wR{N:Nat}(h:0≠i):N≠N+i:=λe=>h (Wb (n:=N) e)
def k6{N:Nat}(h:l<N):l≠N+i:=eN (eM h (pA ..))
section
variable{N l1 l2:Addr}{x y a b:ai}
def TI.off{h:Heap}{a:Nat}{b:Addr}(x:h.IsTupleIter a t i)(hs:uE b h h')(sG:a≠b):h'.IsTupleIter a t i:=x.extBut hs.extBut sG
def Wc(k1:l1<N)(k2:l2<N)(Z:uI s.heap N l1 l2 x y 0 a b)
 (hQ:∀h',IsZip h' (N+4) (N+2) (N+3) (gf s.heap.objs.size)->h'.IsTupleIter N l1 1->IsPair h' s.heap.objs.size x y->h'.objs.size=s.heap.objs.size+1->ZK N s.heap h'->Q (.ref s.heap.objs.size) {s with heap:=h'}):
 aq (model prog w) A (Builtin.«zip.__next__» ⟨[.ref (N+4)],[]⟩) (λfin s'=>∃v,fin= .done (.ret v)/\Q v s') E s:=by
 obtain⟨hz,wU,Wd,h1,h2,dp,eg⟩:=Z;have z3:N+3≠N+4:=uJ (by decide);have z0:N≠N+4:=wR (by decide);have z1:N+1≠N+4:=uJ (by decide);have t0:N+3≠N:=(wR (by decide)).symm;have t1:N+3≠N+1:=uJ (by decide);have o1:N≠N+1:=wR (by decide);show aq _ _ (field (.ref (N+4)) 2 >>= _) _ _ _;refine wB (mX hz rfl (x:=.bool false) rfl ?_);refine wB (mX hz rfl (x:=.ref (N+2)) rfl ?_);refine wB (rg wU rfl ?_);refine wB ?_;refine wB (mX hz rfl (x:=.none) rfl (aF ?_));refine wB (mS ?_);refine wB (mX hz rfl (x:=.ref (N+3)) rfl ?_);refine wB (uK hz (by simp) λik Al iC=> ?_);refine wB ?_;simp-iota only[List.zipIdx_cons,List.zipIdx_nil,Am,List.forIn_nil];refine wB (wB (wpAny_onRaise ?_));refine wB (DP (TI.off h1 iC z0) (dp.extBut iC.extBut (k6 k1)) (x:=x) rfl λkP We ou=>aF ?_);have J8:IsPair kP (N+3) a b:=ou.extBut _ _ t0 (iC.extBut _ _ z3 Wd);refine wB (rg J8 rfl ?_);refine wB (wpAny_updateSeq_pair J8 λqU Wf uL=> ?_);refine wB (wpAny_letGo (aF ?_));refine wB (wB (wpAny_onRaise ?_));refine wB (DP (TI.off (TI.off (TI.off h2 iC z1) ou o1.symm) uL t1.symm)
  (((eg.extBut iC.extBut (k6 k2)).extBut ou.extBut (eN k2)).extBut uL.extBut (k6 k2)) (x:=y) rfl λWg ajK wV=>aF ?_)
 have J9:IsPair Wg (N+3) x b:=wV.extBut _ _ t1 Wf;refine wB (rg J9 rfl ?_);refine wB (wpAny_updateSeq_pair J9 λjT D3 An=> ?_);replace D3:IsPair jT (N+3) x y:=D3;refine wB (wpAny_letGo (aF (aF ?_)));refine wB (rg D3 rfl ?_);refine wB (wpAny_newTuple ?_);have hsz:jT.objs.size=s.heap.objs.size:=by rw[An.1,wV.1,uL.1,ou.1,iC.1]
 have J':IsZip jT (N+4) (N+2) (N+3) .ellipsis:=An.extBut _ _ z3.symm (wV.extBut _ _ z1.symm (uL.extBut _ _ z3.symm (ou.extBut _ _ z0.symm Al)));have Wh:ZK N s.heap jT:=λc o c1 c2 c3 c4 e=>An.extBut _ _ c2 (wV.extBut _ _ c4 (uL.extBut _ _ c2 (ou.extBut _ _ c3 (iC.extBut _ _ c1 e))));have Wi:jT.IsTupleIter N l1 1:=TI.off (TI.off (TI.off We uL t0.symm) wV o1) An t0.symm;have Ka:N+4<jT.objs.size:=eQ J';show aq _ _ (Wj (.ref (N+4)) (.ref jT.objs.size) >>= _) _ _ _;refine wB ?_;unfold Wj;have Wk:IsZip (jT.push {cls:=.type "tuple",data:=.seq #[x,y]}) (N+4) (N+2) (N+3) .ellipsis:=cS _ J';refine wB (uK Wk (by simp) λWl D4 D5=> ?_);replace D4:IsZip Wl (N+4) (N+2) (N+3) (gf jT.objs.size):=D4;refine uK D4 (by simp) λwW Ao D6=> ?_;replace Ao:IsZip wW (N+4) (N+2) (N+3) (gf jT.objs.size):=Ao;have up:∀c o,c≠N+4->jT.get? c=some o->wW.get? c=some o:=λc o c1 e=>D6.extBut _ _ c1 (D5.extBut _ _ c1 (cS _ e));have Kc:IsPair wW jT.objs.size x y:=D6.extBut _ _ (jR Ka) (D5.extBut _ _ (jR Ka) (dX _ rfl));have Kd:wW.objs.size=jT.objs.size+1:=by rw[D6.1,D5.1,sC]
 rw[hsz]at Ao Kc Kd;refine aF ⟨_,rfl, ?_⟩;show Q (.ref jT.objs.size) _;rw[hsz];exact hQ wW Ao (Wi.at λo e=>up _ o z0 e) Kc Kd λc o c1 c2 c3 c4 e=>up c o c1 (Wh c o c1 c2 c3 c4 e)
def alive_some{a:Addr}{Q:Option Obj->ao->Prop}(ho:s.heap.get? a=some o)(h:Q (some o) s):aq (model prog w) A (loadIfAlive a) Q E s:=by
 have h':Q (s.heap.get? a) s:=by rw[ho];exact h
 exact λY Y Y=>h'
def Wm{T:Addr}(hh:A.handled=none)(k1:l1<N)(kT:N+4≠T)(hz:IsZip s.heap (N+4) (N+2) (N+3) (gf T))(hT:IsPair s.heap T x y)(wU:IsPair s.heap (N+2) (.ref N) (.ref (N+1)))(h1:s.heap.IsTupleIter N l1 1)(dp:s.heap.IsTuple l1 #[x])
 {Q:Fin->ao->Prop} (hE:∀h' e,ZK N s.heap h'->(∃o,h'.get? e=some o/\o.cls= .type "StopIteration")->E (.ref e) {s with heap:=h'}):
 aq (model prog w) A (Builtin.«zip.__next__» ⟨[.ref (N+4)],[]⟩) Q E s:=by
 show aq _ _ (field (.ref (N+4)) 2 >>= _) _ _ _;refine wB (mX hz rfl (x:=.bool false) rfl ?_);refine wB (mX hz rfl (x:=.ref (N+2)) rfl ?_);refine wB (rg wU rfl ?_);refine wB ?_;refine wB (mX hz rfl (x:=gf T) rfl ?_);refine wB (alive_some hT ?_);refine wB (mX hz rfl (x:=.bool false) rfl ?_);refine wB (uK hz (by simp) λik Al iC=>aF ?_);refine wB ?_;refine wB (wB (dD ?_));exact wB (JW hh (TI.off h1 iC (wR (by decide))) (dp.extBut iC.extBut (k6 k1)) rfl λkP e ou he=>hE kP e (λc o c1 Y c3 Y q=>ou _ _ c3 (iC.extBut _ _ c1 q)) he)
def next_item(k1:l1<N)(k2:l2<N)(Z:uI s.heap N l1 l2 x y 0 a b){Q:Option ai->ao->Prop}
 (hQ:∀h',IsZip h' (N+4) (N+2) (N+3) (gf s.heap.objs.size)->h'.IsTupleIter N l1 1->IsPair h' s.heap.objs.size x y->h'.objs.size=s.heap.objs.size+1->ZK N s.heap h'->Q (some (.ref s.heap.objs.size)) {s with heap:=h'}):
 aq (model prog w) A (pyNext (.ref (N+4))) Q E s:=by
 have hT:s.TypeIs (.ref (N+4)) "zip":=⟨_,Z.z,rfl⟩;exact wB (wpAny_attempt (wpAny_callSpecial?_slot (name:=aM "__next__") hT D7
  (iW D7 hT Wn (Wc k1 k2 Z λh' a1 a2 a3 a4 a5=>aF (hQ h' a1 a2 a3 a4 a5)) (Wo _))))
def next_end{T:Addr}(hh:A.handled=none)(k1:l1<N)(kT:N+4≠T)(hz:IsZip s.heap (N+4) (N+2) (N+3) (gf T))(hT:IsPair s.heap T x y)(wU:IsPair s.heap (N+2) (.ref N) (.ref (N+1)))(h1:s.heap.IsTupleIter N l1 1)(dp:s.heap.IsTuple l1 #[x])
 {Q:Option ai->ao->Prop} (hQ:∀h',ZK N s.heap h'->Q none {s with heap:=h'}):aq (model prog w) A (pyNext (.ref (N+4))) Q E s:=by
 have hZ:s.TypeIs (.ref (N+4)) "zip":=⟨_,hz,rfl⟩;refine wB (wpAny_attempt (wpAny_callSpecial?_slot (name:=aM "__next__") hZ D7
  (iW D7 hZ Wn (Wm (A:=A.in1) hh k1 kT hz hT wU h1 dp λh' e hk he=> ?_) (Wo _))))
 obtain⟨o,ho,hc⟩:=he;refine wB (wpAny_isInstance (T:="StopIteration") (b:=true) ⟨o,ho,hc⟩ Wq ?_);exact aF (hQ _ hk)
def Wr{c:Nat}{res:ai}(hh:A.handled=none)(k1:l1<N)(k2:l2<N)(kS:N+4<S)(Z:uI s.heap N l1 l2 x y 0 a b)(hS:s.heap.get? S=some {cls:=.type "list",data:=.seq #[] c})
 (hR:∀h' T c',(∀b o,b<N->s.heap.get? b=some o->h'.get? b=some o)->h'.get? S=some {cls:=.type "list",data:=.seq #[.ref T] c'}->IsPair h' T x y->R (.ok (.ret res)) {s with heap:=h'}):
 iV (model prog w) A (.builtin "list.extend.loop" ⟨[.ref S,.ref (N+4),res],[]⟩) R s:=by
 have kk:∀i,i<=4->S≠N+i:=λi h=>jR (iT (wd h N) kS);have D8:S≠N:=kk 0 (dJ _);refine mY Ws ?_;refine wB (next_item k1 k2 Z λik Al Wt Ke ajL Ap=> ?_);have Kf:=Ap S _ (kk 4 (by decide)) (kk 3 (by decide)) D8 (kk 1 (by decide)) hS;have Wu:=Ap (N+2) _ (uJ (by decide)) (uJ (by decide)) (wR (by decide)).symm (uJ (by decide)) Z.TI;have Wv:ik.IsTuple l1 #[x]:=Z.l1.elim λo r=>⟨o,Ap _ _ (k6 k1) (k6 k1) (eN k1) (k6 k1) r.1,r.2⟩;have kT:s.heap.objs.size≠S:=jR (eQ hS);refine wB (wpAny_updateSeq Kf rfl (aF ⟨pR D9 _, ?_⟩));have mZ:∀b o,b≠S->ik.get? b=some o->(ik.update S (dN (·.push (.ref s.heap.objs.size)))).get? b=some o:=λb o hb e=>(kZ _ _ (b0 hb)).trans e;have wX:=kY (dN (·.push (Kg s.heap.objs.size))) Kf rfl;refine mY Ws ?_;rw[Ea D9 _];show aq _ A.in1 (pyNext (.ref (N+4)) >>= _) _ _ _;refine wB (next_end (A:=A.in1) (x:=x) (y:=y) hh k1 (T:=s.heap.objs.size) (eN (sj kS (eQ hS))) (mZ _ _ (kk 4 (by decide)).symm Al) (mZ _ _ kT Ke) (mZ _ _ (kk 2 (by decide)).symm Wu)
  (Wt.at λo e=>mZ _ _ D8.symm e) (Wv.elim λo r=>⟨o,mZ _ _ (eN (sj (eM k1 (pA N 4)) kS)) r.1,r.2⟩) λqU Eb=> ?_)
 have Aq:∀i,i<=4->s.heap.objs.size≠N+i:=λi h=>jR (iT (wd h N) (sj kS (eQ hS)));exact aF (hR qU s.heap.objs.size _ (λb o hb e=>Eb b o (k6 hb) (k6 hb) (eN hb) (k6 hb) (mZ b o (eN (sj (eM hb (pA N 4)) kS))
  (Ap b o (k6 hb) (k6 hb) (eN hb) (k6 hb) e))) (Eb S _ (kk 4 (by decide)) (kk 3 (by decide)) D8 (kk 1 (by decide)) wX)
  (Eb _ _ (Aq 4 (by decide)) (Aq 3 (by decide)) (Aq 0 (by decide)) (Aq 1 (by decide)) (mZ _ _ kT Ke)))
def Ww(hh:A.handled=none)(k1:l1<N)(k2:l2<N)(Z:uI s.heap N l1 l2 x y 0 a b)
 (hQ:∀h' T c',(∀b o,b<N->s.heap.get? b=some o->h'.get? b=some o)->h'.get? s.heap.objs.size=some {cls:=.type "list",data:=.seq #[.ref T] c'}->IsPair h' T x y->Q (.ref s.heap.objs.size) {s with heap:=h'}):
 aq (model prog w) A (call (.type "list") [.ref (N+4)]) Q E s:=by
 have kS:N+4<s.heap.objs.size:=eQ Z.z;refine callType_codes (Q₁:=λobj dO=>obj= .ref s.heap.objs.size/\dO={s with heap:=s.heap.push {cls:=.type "list",data:=.seq #[]}}) PySem.F.called_list (PySem.F.typeCall_list_1 _) PySem.F.entry_list_init
  (code_list_new _ ⟨rfl,rfl⟩) λobj dO ik=> ?_
 obtain⟨rfl,rfl⟩:=ik;have hS:(s.heap.push {cls:=.type "list",data:=.seq #[]}).get? s.heap.objs.size=some {cls:=.type "list",data:=.seq #[]}:=dX _ rfl;refine⟨⟨_,hS,rfl⟩,PySem.F.args_list_init_2 _ _, ?_⟩;refine wB ?_;refine wB (rg hS rfl (aF ?_));refine wB (wpAny_updateSeq hS rfl ?_);have wX:=kY (dN (λY=>(#[]:Array ai))) hS rfl;refine wB (wpAny_letGo ?_);generalize hp:(s.heap.push {cls:=.type "list",data:=.seq #[]}).update s.heap.objs.size (dN λY=>(#[]:Array ai))=g at wX⊢;have k:∀b o,b<s.heap.objs.size->s.heap.get? b=some o->g.get? b=some o:=λb o hb e=>hp▸(kZ _ _ (jR hb)).trans (cS _ e);have Z:uI g N l1 l2 x y 0 a b:=by have k':∀b o,s.heap.get? b=some o->g.get? b=some o:=λb o e=>k b o (eQ e) e;exact⟨k' _ _ Z.z,k' _ _ Z.TI,k' _ _ Z.TO,Z.i1.at λo e=>k' _ o e,Z.i2.at λo e=>k' _ o e,Z.l1.elim λo r=>⟨o,k' _ _ r.1,r.2⟩,Z.l2.elim λo r=>⟨o,k' _ _ r.1,r.2⟩⟩
 have hz:Kh {s with heap:=g} (.ref (N+4)) "zip":=⟨_,Z.z,rfl⟩;refine wB (wpAny_typeOf hz ?_);have h1:Ec (.ref s.heap.objs.size) (.ref (N+4))=false:=by simp[Ec,jR kS]
 have h2:(pS "zip"==pS "list")=false:=by decide
 have h3:(pS "zip"==pS "tuple")=false:=by decide
 refine wpAny_ite_false (by rw[h1,h2,h3];rfl) ?_;refine wB (wpAny_pyIter_zip Z.z ?_);refine wB (dD ?_);refine wB (sh hz V' ?_);show aq _ _ (specialOf (Kg (N+4)) (aM "__length_hint__") >>= _) _ _ _;refine wB (sh hz Wa ?_);refine aF ?_;show aq _ _ (rule "list.extend.makes-room" >>= λY=>Builtin.List.listTouch (.ref s.heap.objs.size) >>= λY=>
  again (.builtin "list.extend.loop" ⟨[.ref s.heap.objs.size,.ref (N+4),.none],[]⟩)) _ _ _
 refine wB (mS ?_);refine wB ?_;show aq _ _ (updateSeq s.heap.objs.size (·.push .none) >>= λY=>updateSeq s.heap.objs.size (·.pop)) _ _ _;refine wB (wpAny_updateSeq wX rfl ?_);have Kj:=kY (dN (·.push jl)) wX rfl;refine wpAny_updateSeq Kj rfl ?_;have Kk:=kY (dN (·.pop)) Kj rfl;have up:∀b o,b≠s.heap.objs.size->g.get? b=some o->((g.update s.heap.objs.size (dN (·.push jl))).update s.heap.objs.size (dN (·.pop))).get? b=some o:=λb o hb e=>(kZ _ _ (b0 hb)).trans ((kZ _ _ (b0 hb)).trans e);generalize(g.update s.heap.objs.size (dN (·.push jl))).update s.heap.objs.size (dN (·.pop))=g2 at Kk up⊢;have ne:∀{i},i<=4->N+i≠s.heap.objs.size:=λh=>eN (iT (wd h N) kS);have kl:∀{l},l<N->l≠s.heap.objs.size:=λh=>eN (sj h (iT (pA N 4) kS));refine aF ⟨pR D9 _,Wr (A:=A.in1) (x:=x) (y:=y) (a:=a) (b:=b) hh k1 k2 kS
  ⟨up _ _ (ne (by decide)) Z.z,up _ _ (ne (by decide)) Z.TI,up _ _ (ne (by decide)) Z.TO,Z.i1.at λo e=>up _ o (ne (dJ 4)) e,Z.i2.at λo e=>up _ o (ne (by decide)) e,Z.l1.elim λo r=>⟨o,up _ _ (kl k1) r.1,r.2⟩,Z.l2.elim λo r=>⟨o,up _ _ (kl k2) r.1,r.2⟩⟩ Kk λh' T c' hk sH hT=>⟨rfl,hQ h' T c' (λb o hb e=>hk b o hb (up b o (kl hb) (k b o (eQ e) e))) sH hT⟩⟩
def Wx(dp:s.heap.IsTuple l1 #[x])(eg:s.heap.IsTuple l2 #[y])
 (h:∀h',uI h' s.heap.objs.size l1 l2 x y 0 .none .none->(∀c o,s.heap.get? c=some o->h'.get? c=some o)->Q (.ref (s.heap.objs.size+4)) {s with heap:=h'}):
 aq (model prog w) A (call (.type "zip") [.ref l1,.ref l2]) Q E s:=by
 refine callType_new PySem.F.called_zip rfl (PySem.F.typeCall_zip_2 _ _) (PySem.F.newCall_zip_2 _ _) (λobj=>PySem.F.args_object_init_3 obj _ _) PySem.F.entry_zip_new
  (V9 l1 l2 _ _) ⟨dp,eg, ?_⟩
 have z1:(Ah s.heap l1).objs.size=s.heap.objs.size+1:=sC ..;have z2:(Ai s.heap l1 l2).objs.size=s.heap.objs.size+2:=by rw[sC,z1]
 have z3:(Aj s.heap l1 l2).objs.size=s.heap.objs.size+3:=by rw[sC,z2]
 have z4:(Ak s.heap l1 l2).objs.size=s.heap.objs.size+4:=by rw[sC,z3]
 have p:∀{h:Heap} {c o} (q:Obj),h.get? c=some o->(h.push q).get? c=some o:=λq e=>cS q e;have g5:(rA s.heap l1 l2).get? (Ak s.heap l1 l2).objs.size=some _:=dX _ rfl;have g4:(rA s.heap l1 l2).get? (Aj s.heap l1 l2).objs.size=some _:=p _ (dX _ rfl);have g3:(rA s.heap l1 l2).get? (Ai s.heap l1 l2).objs.size=some _:=p _ (p _ (dX _ rfl));have g2:(rA s.heap l1 l2).get? (Ah s.heap l1).objs.size=some _:=p _ (p _ (p _ (dX _ rfl)));have g1:(rA s.heap l1 l2).get? s.heap.objs.size=some _:=p _ (p _ (p _ (p _ (dX _ rfl))));have k:∀c o,s.heap.get? c=some o->(rA s.heap l1 l2).get? c=some o:=λc o e=>p _ (p _ (p _ (p _ (p _ e))));generalize rA s.heap l1 l2=g at*;rw[z2,z3,z4]at g5;rw[z1,z2]at g3;rw[z3]at g4;rw[z1]at g2;rw[z4];exact⟨⟨_,g5,rfl⟩,h g ⟨g5,g3,g4,⟨_,g1,rfl,rfl⟩,⟨_,g2,rfl,rfl⟩,dp.elim λo r=>⟨o,k _ _ r.1,r.2⟩,eg.elim λo r=>⟨o,k _ _ r.1,r.2⟩⟩ k⟩
end
section
variable{st:ah}
def aR.fresh{o:O}{a:Addr}(P:aR F μ st s (st++[o]) (.ab st.length) Q)(S:ar F μ st s)(k:∀b ob,s.heap.get? b=some ob->s'.heap.get? b=some ob)(hg:s'.gens=s.gens)(lO:s'.os=s.os)
 (ha:s.heap.get? a=none) (x:cM s.heap s'.heap->OR F (μ.put st.length a a).ρ (st.length+1) s'.heap st.length a o):Q (.ref a) s':=by
 obtain⟨S',T'⟩:=S.alloc k hg lO ha (x (cM.of_keeps k));refine P _ _ _ S' T' ?_;have:VR (μ.put st.length a a).ρ (st++[o]).length s'.heap (.ab st.length) (.ref ((μ.put st.length a a).ρ st.length)):=.ab (by simp);simpa[Mp.put]using this
def aJ.Kl{N:Nat}{h:Heap}{a:V}{us:List ai}(r:aJ ρ N h [a] us):∃u,us=[u]/\VR ρ N h a u:=r.iq λu vs e x y=>⟨u,by rw[e,y.lM],x⟩
def Wy(O:Ok F)(S:ar F μ st s){a b:V}{w:ai}(R:cy A 1)(x:VR μ.ρ st.length s.heap (.tup [a]) u)(y:VR μ.ρ st.length s.heap (.tup [b]) w)
 (h:cg [.tup [a,b]] st=some (v,U)) (P:aR F μ st s U v Q):aq F.m A (call (.type "zip") [u,w]) (λz s'=>aq F.m A (call (.type "list") [z]) Q E s') E s:=by
 obtain⟨l1,us,rfl,t1,r1⟩:=x.out;obtain⟨l2,ws,rfl,t2,r2⟩:=y.out;obtain⟨p,rfl,xp⟩:=r1.Kl;obtain⟨q,rfl,xq⟩:=r2.Kl;obtain⟨hc,rfl,rfl⟩:=newL_some h;have L:∀{l i},s.heap.IsTuple l i->l<s.heap.objs.size:=λt=>t.elim λo r=>eQ r.1;refine Wx t1 t2 λh1 Z k1=> ?_;refine Ww (l1:=l1) (l2:=l2) (x:=p) (y:=q) (a:=.none) (b:=.none) R.handled (L t1) (L t2) Z λh2 T c hk hS hT=> ?_;have k:=λb o e=>hk b o (eQ e) (k1 b o e);have im:=cM.of_keeps k;have hn:s.heap.get? h1.objs.size=none:=by
  cases e:s.heap.get? h1.objs.size with
  |none=>rfl
  |some o=>exact absurd (eQ (k1 _ _ e)) (qW _)
 exact P.fresh (s':={s with heap:=h2}) S k rfl rfl hn (λY=>OR.zw (.cons (.tup (vs:=[p,q]) ⟨_,hT,rfl,_,rfl⟩ (.cons (xp.mono (λY Y=>rfl) (bG _) im) (.cons (xq.mono (λY Y=>rfl) (bG _) im) .nil))) .nil) hS (cM.refl _) hc)
end
end
section
open MeetsSeq3 (plain_eq_loop entry_eq_loop)
section
variable{oa:Obj}{vs us:List ai}{m:Nat}
def Ar{l:List α}(h:i<l.length):l.drop i=l[i]::l.drop (i+1):=uM h
def Ee{vs:List ai}{xs:List Int}(h:IntsAre vs xs):∀i (hi:i<xs.length),∃t,vs[i]? =some (.int xs[i] t):=by
 induction h with
 |nil=>intro i hi;cases hi
 |cons x t r ih=>
  intro i hi;cases i with
  |zero=>exact⟨t,rfl⟩
  |succ i=>exact ih i (Km hi)
def Wz(ha:s.heap.get? a=some oa)(da:oa.data= .seq vs.toArray n)(hb:s.heap.get? b=some ob)(db:ob.data= .seq us.toArray m){xs ys:List Int}(hx:IntsAre vs xs)(hy:IntsAre us ys):
 ∀k i,xs.length-i=k->i<=xs.length->i<=ys.length->R (.ok (.ret (.bool (pa (xs.drop i) (ys.drop i))))) s->iV (model prog w) A (.builtin "list.__eq__.loop" ⟨[.ref a,.ref b,gf i,gf 0],[]⟩) R s:=by
 intro k;induction k with
 |zero=>
  intro i hk h1 h2 h;have hi:xs.length=i:=dU (Nat.sub_eq_zero_iff_le.mp hk) h1;refine mY entry_eq_loop ?_;refine wB (ow ha da (b8 (ow hb db ?_)));have e1:vs.toArray[((i:Nat):Int).toNat]? =none:=by simp[uN hx,hi]
  rw[e1];refine b8 (ow ha da (b8 (ow hb db (aF ?_))));show R (.ok (.ret (.bool (decide (vs.toArray.size<us.toArray.size))))) _;have e2:decide (vs.toArray.size<us.toArray.size)=pa (xs.drop i) (ys.drop i):=by
   rw[Ef (lD hi),eI,eI,uN hx,uN hy,hi];cases e:ys.drop i with
   |nil=>exact decide_eq_false (by have:=Kn.mp e;exact fT.mpr this)
   |cons y r=>exact decide_eq_true (by refine WA λq=> ?_;rw[Ef q]at e;cases e)
  rw[e2];exact h
 |succ k ih=>
  intro i hk h1 h2 h;have hi:i<xs.length:=Nat.lt_of_sub_pos (hk▸As k);obtain⟨t,e1⟩:=Ee hx i hi;refine mY entry_eq_loop ?_;refine wB (ow ha da (b8 (ow hb db ?_)));have zB:vs.toArray[((i:Nat):Int).toNat]? =some (.int xs[i] t):=by simpa using e1
  rw[zB];by_cases hj:i<ys.length
  .obtain⟨t2,e2⟩:=Ee hy i hj;have eX:us.toArray[((i:Nat):Int).toNat]? =some (.int ys[i] t2):=by simpa using e2
   rw[eX];refine b8 (CW _ _ _ _ prog w _ _ ?_);rw[Ar hi,Ar hj]at h;by_cases q:xs[i]=ys[i]
   .rw[if_pos (beq_iff_eq.mpr q)];rw[show pa (xs[i]::xs.drop (i+1)) (ys[i]::ys.drop (i+1))=pa (xs.drop (i+1)) (ys.drop (i+1))from if_pos q]at h;exact aF ⟨pR plain_eq_loop _,ih (i+1) (congrArg Eg hk) hi hj h⟩
   .rw[if_neg (λe=>q (beq_iff_eq.mp e))];rw[show pa (xs[i]::xs.drop (i+1)) (ys[i]::ys.drop (i+1))=decide (xs[i]<ys[i])from if_neg q]at h;refine wB (ow ha da (b8 (ow hb db ?_)));rw[zB,eX];refine b8 ?_;exact Sg (aF h)
  .have iw:ys.length=i:=dU (fT.mp hj) h2;have eX:us.toArray[((i:Nat):Int).toNat]? =none:=by simp[uN hy,iw]
   rw[eX];refine b8 (ow ha da (b8 (ow hb db (aF ?_))));show R (.ok (.ret (.bool (decide (vs.toArray.size<us.toArray.size))))) _;rw[eI,eI,uN hx,uN hy,decide_eq_false (by rw[iw];exact fT.mpr (pB hi))];rw[Ar hi,Ef (lD iw)]at h;exact h
def WB(hu:A.units<cLine)(ha:s.heap.get? a=some oa)(ca:oa.cls= .type "list")(da:oa.data= .seq vs.toArray n)(hb:s.heap.get? b=some ob)(cb:ob.cls= .type "list")(db:ob.data= .seq us.toArray m)
 {xs ys:List Int} (hx:IntsAre vs xs) (hy:IntsAre us ys) {Q:Bool->ao->Prop} (h:Q (pa xs ys) s):aq (model prog w) A (keyLt' oneType' (.ref a) (.ref b)) Q E s:=by
 refine wB (wpAny_cRoomFor hu ?_);have hT:s.TypeIs (.ref a) "list":=⟨_,ha,ca⟩;refine wB (wpAny_callSpecialIfBound?_slot hT Ko ?_);refine wpAny_call (codeAny_call_builtin Ko.plain PySem.F.entry_list_lt (Ko.check _ _ _ _ _ _ _ _ hT (PySem.F.args_list_lt_2 _ _) ?_));show aq _ _ (isInstance (.ref b) (.type "list") >>= _) _ _ _;refine wB (wpAny_isInstance (T:="list") (b:=true) ⟨_,hb,cb⟩ rfl ?_);refine aF ⟨pR plain_eq_loop _,Wz ha da hb db hx hy _ 0 rfl (dJ _) (dJ _) ?_⟩;exact wpAny_truthy_bool h
end
abbrev fj(n:Nat):KasT α->(α->Prop)->Prop
 |.ret a,Q=>Q a
 |.ask i j k,Q=>i<n/\j<n/\∀c,fj n (k c) Q
def fj.bind{n:Nat}{f:α->KasT β}{Q:β->Prop}{P:α->Prop}(hf:∀a,P a->fj n (f a) Q):∀{t:KasT α},fj n t P->fj n (t.bind f) Q:=by
 intro t;induction t with
 |ret a=>exact hf a
 |ask i j k ih=>exact λh=>⟨h.1,h.2.1,λc=>ih c (h.2.2 c)⟩
def fj.run{n:Nat}{b:Nat->Nat->Bool}{Q:α->Prop}:∀{t:KasT α},fj n t Q->Q (r6 b t):=by
 intro t;induction t with
 |ret a=>exact λh=>h
 |ask i j k ih=>exact λh=>ih _ (h.2.2 _)
def fj.wp{n:Nat}{b:Nat->Nat->Bool}{cmp:Nat->Nat->(Bool->ao->Prop)->ao->Prop}{Q:α->Prop}{G:α->ao->Prop}{s:ao}(hc:∀i j C,i<n->j<n->C (b i j) s->cmp i j C s):
 ∀{t:KasT α},fj n t Q->G (r6 b t) s->t.kasWp cmp G s:=by
 intro t;induction t with
 |ret a=>exact λY h=>h
 |ask i j k ih=>exact λq h=>hc i j _ q.1 q.2.1 (ih _ (q.2.2 _) h)
abbrev Lt(n:Nat)(p:Array Nat):Prop:=∀x∈p,x<n
section
variable{p:Array Nat}
def Lt.at(h:Lt n p)(h0:0<n)(k:Nat):p.getD k 0<n:=by
 unfold Array.getD;split
 .exact h _ (Array.getElem_mem _)
 .exact h0
def Lt.rev(h:Lt n p)(i j:Nat):Lt n (kas_rev p i j):=λx hx=>h x ((mirror_perm p i j _).mem_iff.mp hx)
def Lt.WC(h:Lt n p)(i j:Nat):Lt n (bubble p i j):=λx hx=>h x ((bubble_perm p i j).mem_iff.mp hx)
def Kp(h:Lt n p)(h0:0<n):∀f k,fj n (kas_asc p f k) λY=>True:=by
 intro l0;induction l0 with
 |zero=>intro _;exact trivial
 |succ f ih=>intro k;exact⟨h.at h0 _,h.at h0 _,λc=>by cases c;exact ih (k+1);exact trivial⟩
def WD(h0:0<n):∀f (p:Array Nat) k q,Lt n p->fj n (kas_desc f p k q) λr=>Lt n r.1:=by
 intro f;induction f with
 |zero=>exact λY Y Y h=>h
 |succ f ih=>exact λp k q h=>⟨h.at h0 _,h.at h0 _,λc=>by
  cases c
  .refine⟨h.at h0 _,h.at h0 _,λc=> ?_⟩;cases c
   .exact ih p _ _ h
   .exact h
  .show fj n (if q>0 then _ else _) _;split
   .exact ih _ _ _ (h.rev _ _)
   .exact ih p _ _ h⟩
def Kq(h:Lt n p)(h0:0<n)(m k:Nat):fj n (kas_tail3 m k p) λr=>Lt n r.2:=fj.bind (Q:=λr:Nat×Array Nat=>Lt n r.2) (f:=λm'=>KasT.ret (m',kas_rev p 0 m)) (P:=λY=>True) (λY Y=>h.rev _ _) (Kp (h.rev _ _) h0 _ _)
def Kr(h:Lt n p)(h0:0<n)(m k:Nat):fj n (kas_descPart m k p) λr=>Lt n r.2:=fj.bind (λr hr=>by
 split
 .exact Kq (hr.rev _ _) h0 _ _
 .exact Kq hr h0 _ _) (WD h0 _ p _ _ h)
def WE(h:Lt n p)(h0:0<n)(k:Nat):fj n (kas_count k p) λr=>Lt n r.2:=fj.bind (λr Y=>by
 split
 .exact h
 .split
  .refine⟨h.at h0 _,h.at h0 _,λc=> ?_⟩;cases c
   .exact Kr (h.rev _ _) h0 _ _
   .exact h
  .exact Kr h h0 _ _) (Kp h h0 _ _)
def WG(h:Lt n p)(h0:0<n)(k:Nat):∀f l r,fj n (kas_place p k f l r) λY=>True:=by
 intro l0;induction l0 with
 |zero=>intro _ _;exact trivial
 |succ f ih=>
  intro l r;show fj n (if l>=r then _ else _) _;split
  .exact trivial
  .exact⟨h.at h0 _,h.at h0 _,λc=>by cases c;exact ih _ _;exact ih _ _⟩
def WI(h0:0<n):∀f (p:Array Nat) k,Lt n p->fj n (kas_bin f p k) (Lt n):=by
 intro f;induction f with
 |zero=>exact λY Y h=>h
 |succ f ih=>exact λp k h=>fj.bind (λl Y=>ih _ _ (h.WC _ _)) (WG h h0 k _ _ _)
def Ks(h0:0<n):fj n (kas_sort n) (Lt n):=by
 refine fj.bind (λr hr=> ?_) (WE (λx hx=>Eh.mp (wb.mp hx)) h0 n);split
 .exact WI h0 _ _ _ hr
 .exact hr
end
section
variable{vs:List ai}{b:Nat->Nat->Bool}
abbrev Kt(prog:eH)(w:bQ)(n:Nat)(vs:List ai)(b:Nat->Nat->Bool)(A:bB)(s:ao):Prop:=∀i j C,i<n->j<n->C (b i j) s->aq (model prog w) A (keyLt' oneType' (vs.getD i jl) (vs.getD j jl)) C (λY Y=>False) s
abbrev iD(b:Nat->Nat->Bool)(vs:List ai):Array ai:=gG ((r6 b (kas_sort vs.length)).toList.map λi=>vs.getD i jl)
def WJ:iD b []= #[]:=by kernel_rfl
def WK(v:ai):iD b [v]= #[v]:=by kernel_rfl
def WL{vs:List ai}(h2:vs.toArray.size<2):(arrOf (Ku general' (vs.toArray.zip vs.toArray) #[] 7 none)).map (·.2)=iD b vs/\(iD b vs).size<=1/\(iD b vs).size=vs.length:=by
 rcases vs with _|⟨v,_|⟨v2,r⟩⟩
 .rw[WJ];exact⟨by show Array.map _ (Array.zip _ _)=_;simp,dJ _,rfl⟩
 .rw[WK];exact⟨by show Array.map _ (Array.zip _ _)=_;simp,bG _,rfl⟩
 .exact absurd h2 (fT.mpr (wY 2 r.length))
def WM{a:Addr}{n:Nat}{P:PySem.Fin->ao->Prop}(ho:s.heap.get? a=some (gX "list" vs.toArray n))(lX:vs.length<64)
 (hT:∀h',(∀c o,c≠a->s.heap.get? c=some o->h'.get? c=some o)->(∀v∈vs,Looks (model prog w) h' (typeOf v) (.type "list"))/\Kt prog w vs.length vs b A {s with heap:=h'})
 (h:(iD b vs).size=vs.length->P (.done (.ret .none)) {s with heap:=sortedHeap s.heap a vs (iD b vs)}):
 aq (model prog w) A (Builtin.«list.sort» ⟨[.ref a],[]⟩) P E s:=by
 rw[list_sort_plain];refine wB (ow ho rfl ?_);refine b8 (listUpdate_at ho rfl ?_);obtain⟨e1,uO⟩:∃e1,(s.heap.update a (dN λY=> #[])).get? a=some (gX "list" #[] e1):=⟨_,get?_update_seq ho (λY=> #[])⟩;refine wB (seqEpoch_at uO rfl ?_);refine wB (wpAny_newTuple ?_);refine wB (wpAny_newList ?_);refine dD ?_;have Au:(((s.heap.update a (dN λY=> #[])).push (gX "tuple" vs.toArray 0)).push (gX "list" #[] 0)).get? a=some (gX "list" #[] e1):=cS _ (cS _ uO);obtain⟨hL,hA⟩:=hT (((s.heap.update a (dN λY=> #[])).push (gX "tuple" vs.toArray 0)).push (gX "list" #[] 0)) λc o hc e=>
  cS _ (cS _ ((kZ _ _ (b0 hc)).trans e))
 unfold sortedHeap at h;generalize((s.heap.update a (dN λY=> #[])).push (gX "tuple" vs.toArray 0)).push (gX "list" #[] 0)=g at*;dsimp only;by_cases h2:vs.toArray.size<2
 .rw[if_pos h2,if_pos h2];refine b8 (aF ?_);refine b8 (aF ?_);dsimp only;refine b8 (seqEpoch_at Au rfl ?_);have e:=WL (b:=b) h2;rw[e.1];refine b8 (listUpdate_at Au rfl ?_ (dJ _) (bx e.2.1 (by decide)));simp-iota only[bne_self_eq_false,zG,if_false];exact aF (h e.2.2)
 .rw[if_neg h2,if_neg h2];have lZ:2<=vs.length:=by rw[eI]at h2;exact fT.mp h2
  refine wB (kas_kind lZ hL rfl rfl ?_);have uo:Ku oneType' (vs.toArray.zip vs.toArray) #[] 7 none=kas_st oneType' (Ei vs) (gG (f' vs.length)):=by have e:=kas_range (Ei vs);rw[pairsOf_size]at e;exact congrArg (λx=>Ku oneType' x #[] 7 none) e.symm
  have run:=kas_runs (prog:=prog) (w:=w) (A:=A) (E:=E) (it:=Ei vs) (κ:=oneType') (Q:=λY U s'=>(arrOf U).map (·.2)=iD b vs/\(iD b vs).size=vs.length/\failedOf U=none/\s'={s with heap:=g})
   (G:=λp s'=>p=r6 b (kas_sort vs.length)/\s'={s with heap:=g}) (s:={s with heap:=g}) lZ lX (λp' U s' a1 a2 a3 a4=>by
    obtain⟨e1,e2⟩:=a4;have eo:(arrOf U).map (·.2)=iD b vs:=by refine Kv.mp ?_;rw[a2,e1,Array.map_map,wZ];exact congrArg (λf=>(r6 b (kas_sort vs.length)).toList.map f) (funext λi=>by show(kas_item (Ei vs) i).2=_;rw[kas_item_eq])
    exact⟨eo,by rw[iD,eI,aP,js,<-e1,a1],a3,e2⟩)
   ((Ks (eM Nat.zero_lt_two lZ)).wp (b:=b) (λi j C hi hj hc=>by rw[<-kas_ask_eq];exact hA i j C hi hj hc) ⟨rfl,rfl⟩)
  rw[<-uo]at run;refine b8 (wpAny_mono run ?_ λY Y e=>e);rintro⟨⟨⟩,U⟩ s' ⟨e1,e2,hf,rfl⟩;dsimp only;rw[e1];refine wB (seqEpoch_at Au rfl ?_);refine b8 (listUpdate_at Au rfl ?_ (dJ _) (bx (lD e2) (bx (pB lX) (by decide))));rw[hf];simp-iota only[bne_self_eq_false,zG,if_false];exact aF (h e2)
def WN{l:Addr}(hl:s.heap.IsList l vs.toArray)(lX:vs.length<64)
 (hT:∀h',(∀c o,s.heap.get? c=some o->h'.get? c=some o)->(∀v∈vs,Looks (model prog w) h' (typeOf v) (.type "list"))/\∀A':bB,A'.units<=A.units+2->Kt prog w vs.length vs b A' {s with heap:=h'})
 (h:(iD b vs).size=vs.length->Q (.ref (s.heap.objs.size+1)) {s with heap:=sortedAll s.heap vs (iD b vs)}):
 aq (model prog w) A (call (.builtin "sorted") [.ref l]) Q E s:=by
 refine Jv kind_sorted plain_sorted entry_sorted (args_sorted1 _) ?_;refine wB (m:=checkCount "sorted" 1 1 _) (aF ?_);refine wB (collect_list hl ?_);refine wB (wpAny_newList ?_);have hsz:((s.heap.push (gX "list" #[] 0)).update s.heap.objs.size (dN (·++vs.toArray))).objs.size=s.heap.objs.size+1:=by rw[Heap.size_update,size_push']
 have Kw:(((s.heap.push (gX "list" #[] 0)).update s.heap.objs.size (dN (·++vs.toArray))).push (gX "list" vs.toArray 0)).get? (s.heap.objs.size+1)=some (gX "list" vs.toArray 0):=by rw[<-hsz];exact dX _ rfl
 have k:∀c o,s.heap.get? c=some o->(((s.heap.push (gX "list" #[] 0)).update s.heap.objs.size (dN (·++vs.toArray))).push (gX "list" vs.toArray 0)).get? c=some o:=λc o e=>
  cS _ ((kZ _ _ (jR (eQ e))).trans (cS _ e))
 rw[hsz];refine wB (dD (iW slot_list_sort ⟨_,Kw,rfl⟩ entry_list_sort (WM Kw lX (λh' hk=> ?_) (λhz=>⟨_,rfl,aF ⟨_,rfl,h hz⟩⟩)) (args_list_sort _)));have:=hT h' λc o e=>hk c o (eN (Ej (eQ e))) (k c o e);exact⟨this.1,this.2 _ (bG _)⟩
end
section
variable{st:ah}
def intLists_some{xs:List V}:∀{q:List (V×List Int)} {au:ah},qQ xs st=some (q,au)->au=st/\q.map (·.1)=xs/\∀p∈q,∃l ys,p.1= .ab l/\st[l]? =some (.list ys)/\dZ ys=some p.2:=by
 induction xs with
 |nil=>
  intro q au h;obtain⟨rfl,rfl⟩:=rt_some h;exact⟨rfl,rfl,λp hp=>nomatch hp⟩
 |cons v r ih=>
  intro q au h;obtain⟨p,aH,h1,h2⟩:=bd_some (show(bd (getL v) λp=>match dZ p.2 with|some is=>bd (qQ r) λq=>rt ((v,is)::q)|none=>er) st=_ from h);obtain⟨e1,e2,rfl⟩:=getL_some h1;cases e:dZ p.2 with
  |none=>rw[e]at h2;exact noNS h2
  |some is=>
   rw[e]at h2;obtain⟨q',aQ,h3,h4⟩:=bd_some h2;obtain⟨rfl,a,b⟩:=ih h3;obtain⟨rfl,rfl⟩:=rt_some h4;exact⟨rfl,by rw[eP,a],λp' hp=>by
    cases hp with
    |head=>exact⟨p.1,p.2,e1,e2,e⟩
    |tail _ hp=>exact b p' hp⟩
def toList_at(p:Array Nat):p.toList=(f' p.size).map λk=>p.getD k 0:=by refine WO (by simp) λi h1 h2=> ?_;rw[WQ,WR,Array.getD,dif_pos (by assumption)];rfl
def aJ.WS{h:Heap}{l:List α}{f:α->V}{g:α->ai}(hf:∀k∈l,VR ρ N h (f k) (g k)):aJ ρ N h (l.map f) (l.map g):=by
 induction l with
 |nil=>exact .nil
 |cons a l ih=>exact .cons (hf a (.head _)) (ih λk hk=>hf k (.tail _ hk))
def WT(O:Ok F)(S:ar F μ st s){xs:List V}{q:List (V×List Int)}{v:V}(R:cy A 1)(h0:st[l]? =some (.list xs))(hq:qQ xs st=some (q,au))(lX:xs.length<64)
 (h:cg ((vU q).map (·.1)) au=some (v,U)) (P:aR F μ st s U v Q):aq F.m A (call (.builtin "sorted") [.ref (μ.ρ l)]) Q E s:=by
 obtain⟨e1,hx,hl⟩:=intLists_some hq;subst e1;obtain⟨vs,L,r,e⟩:=fV S h0;have hlen:vs.length=q.length:=by rw[r.length,<-hx,aP]
 have at_:∀i,i<vs.length->∃l ys is,vs.getD i jl= .ref (μ.ρ l)/\au[l]? =some (.list ys)/\dZ ys=some is/\(q.map (·.2)).getD i []=is:=λi hi=>by
  have lV:i<q.length:=hlen▸hi;obtain⟨l,ys,a1,a2,a3⟩:=hl q[i] (C8 lV);obtain⟨u,b1,b2⟩:=r.get (i:=i) (v:=q[i].1) (by rw[<-hx,fh,dS lV];rfl);rw[a1]at b2;exact⟨l,ys,_,by rw[sI,b1];exact b2.pL rfl,a2,a3,by rw[sI,fh,dS lV];rfl⟩
 have hu:=R.units;refine WN (b:=tY (q.map (·.2))) L (by rw[r.length];exact lX) (λh' k=>⟨λv hv=> ?_,λA' hA i j C hi hj hc=> ?_⟩) λhz=> ?_
 .obtain⟨i,hi,ev⟩:=WU hv;obtain⟨l,ys,is,a1,a2,_⟩:=at_ i hi;rw[sI,dS hi]at a1;rw[<-ev,show vs[i]=_ from a1];obtain⟨ws,m,a4,a5,_⟩:=listAt S a2;exact(Looks.ld (part:=none) (k _ _ (a4▸a5))).andThen .now
 .obtain⟨l1,ys1,is1,a1,a2,a3,a4⟩:=at_ i hi;obtain⟨l2,ys2,is2,b1,b2,b3,b4⟩:=at_ j hj;obtain⟨ws1,m1,c1,c2,c3,_⟩:=listAt S a2;obtain⟨ws2,m2,d1,d2,d3,_⟩:=listAt S b2;rw[a1,b1];replace hc:C (pa ((q.map (·.2)).getD i []) ((q.map (·.2)).getD j [])) _:=hc;rw[a4,b4]at hc;exact WB (iT (bx hA (bx (wd (by decide:2<=10*1) _) (pA _ 200))) hu) (k _ _ (c1▸c2)) rfl rfl (k _ _ (d1▸d2)) rfl rfl (c3.ints a3) (d3.ints b3) hc
 .obtain⟨m,hk⟩:=sortedAll_at s.heap vs (iD (tY (q.map (·.2))) vs);refine P.ur (s':={s with heap:=sortedAll s.heap vs (iD (tY (q.map (·.2))) vs)}) (vs:=(iD (tY (q.map (·.2))) vs).toList) (n:=m) h S ?_ (λY Y=>sortedAll_old) (ui (mM _)) hk rfl rfl;have hk:(q.map (·.2)).length=vs.length:=by rw[aP,hlen]
  have lt:0<vs.length->Lt vs.length (nY (q.map (·.2))):=λh0=>by unfold nY;rw[hk];exact(Ks h0).run
  have hp:(iD (tY (q.map (·.2))) vs).toList=(nY (q.map (·.2))).toList.map λi=>vs.getD i jl:=by unfold nY;rw[hk];rfl
  have hs:(nY (q.map (·.2))).size=vs.length:=by rw[<-hz,<-js,<-js,hp,aP]
  rw[hp,toList_at];unfold vU;generalize nY (q.map (·.2))=p at lt hs⊢;rw[pT,hs];cases q with
  |nil=>rw[hlen];exact .nil
  |cons d q=>
   show aJ _ _ _ (((f' (d::q).length).map λk=>(d::q).getD (p.getD k 0) d).map (·.1)) _;rw[pT,<-hlen];refine aJ.WS λk fF=> ?_;have h0:0<vs.length:=iT (dJ k) (Eh.mp fF);have hj:=(lt h0).at h0 k;have iw:p.getD k 0<(d::q).length:=hlen▸hj;obtain⟨u,b1,b2⟩:=r.get (i:=p.getD k 0) (v:=(d::q)[p.getD k 0].1) (by rw[<-hx,fh,dS iw];rfl);show VR _ _ _ ((d::q).getD (p.getD k 0) d).1 (vs.getD (p.getD k 0) jl);rw[sI,sI,b1,dS iw];exact b2
end
end
variable{q:Pos}{t:eE}{g:Str}{led:Bool}
section
abbrev Av(t:eE)(g:Array Int):Option (Array Int×eE):=
 if t.fits g.size=true then(if t.tooFull=true then(t.relaid g (uP g.size)).bind λr=>
  if(coversAll r.2 g.size && r.1.fits (r.2.filterMap (g[·]?)).size)=true then some (r.2.filterMap (g[·]?),r.1)else none else some (g,t))else none
abbrev sJ(p:Array Int×eE)(h:Int):Option (Array Int×eE):=(p.2.freeSlot h).bind λs=>if s.2=true then none else Av (p.2.put s.1).1 (iY p.1 (p.2.put s.1).2 h)
variable{q:Array Int×eE}
def Ek{g:Array Int}(h:Av t g=some q)(k1:t.fits g.size=true->t.tooFull=false->(g,t)=q->C)
 (k2:t.fits g.size=true->t.tooFull=true->∀r,t.relaid g (uP g.size)=some r->(coversAll r.2 g.size && r.1.fits (r.2.filterMap (g[·]?)).size)=true->(r.2.filterMap (g[·]?),r.1)=q->C):C:=by
 unfold Av at h;by_cases f:t.fits g.size=true
 .rw[if_pos f]at h;by_cases u:t.tooFull=true
  .rw[if_pos u]at h;obtain⟨r,hr,h⟩:=fg.mp h;by_cases c:(coversAll r.2 g.size && r.1.fits (r.2.filterMap (g[·]?)).size)=true
   .rw[if_pos c]at h;exact k2 f u r hr c (bF h)
   .rw[if_neg c]at h;exact noNS h
  .rw[if_neg u]at h;exact k1 f (Jk.mpr u) (bF h)
 .rw[if_neg f]at h;exact noNS h
variable{p:Array Int×eE}{i:Int}
def Kx(h:sJ p i=some q):∃s,p.2.freeSlot i=some (s,false)/\Av (p.2.put s).1 (iY p.1 (p.2.put s).2 i)=some q:=by
 obtain⟨s,hs,h⟩:=fg.mp h;obtain⟨s,b⟩:=s;cases b with
 |true=>exact noNS h
 |false=>exact⟨s,hs,h⟩
abbrev slotAt(t:eE)(k:Nat):Nat:=if k=0 then 0 else t.place.getD (k-1) 0+1
abbrev rB(t:eE)(n:Nat):Bool:=t.place.size==n && (f' (n+1)).all λk=>SetTable.below t.place (slotAt t k)==k
abbrev sM(p:Array Int×eE):Bool:=rB p.2 p.1.size && p.2.plain && p.2.fits p.1.size && pd p.1.size 20
abbrev Aw:Nat->Int->Array Int×eE->Bool
 |0,_,_=>true
 |f+1,a,p=>Aw f (a+1) p && (match sJ p a with|some q=>sM q && Aw f (a+1) q|none=>false)
def t9(led:Bool):Aw 9 2 (#[],Ky 0 0 led)=true:=by kernel_rfl
def WV(led:Bool):sM (#[],Ky 0 0 led)=true:=by kernel_rfl
def WW{g:Array Int}{r:eE×Array Nat}(h:t.relaid g n=some r):r.1.led=t.led:=by
 obtain⟨o,_,e⟩:=fg.mp h;cases e;rfl
def WX(h:sJ p i=some q):q.2.led=p.2.led:=by
 obtain⟨s,hs,h⟩:=Kx h;exact Ek h (λY Y e=>e▸rfl) λY Y r hr Y e=>e▸(WW hr).trans rfl
def WY(f:α->β)(xs:Array α)(p:Nat)(x:α):(iY xs p x).map f=iY (xs.map f) p (f x):=by unfold iY;simp
def WZ(xs:Array α)(ys:Array β)(h:xs.size=ys.size)(p:Nat)(x:α)(y:β):(iY xs p x).size=(iY ys p y).size:=by unfold iY;simp[h]
def Kz(f:α->β)(o:Array Nat)(xs:Array α):(o.filterMap (xs[·]?)).map f=o.filterMap ((xs.map f)[·]?):=by apply Kv.mp;simp[List.map_filterMap]
variable{hs:Array Int}{es:Array (Int×ai)}
def W2(ha:sJ (hs,t) i=some q)(he:es.map (·.1)=hs)(x:ai):
 ∃eY t1,layNew t es i x=(eY,t1,false,false)/\((t1.tooFull=false/\q=(eY.map (·.1),t1))\/(t1.tooFull=true/\∃uQ,relayAll t1 eY (uP eY.size)=(uQ,q.2,false)/\uQ.map (·.1)=q.1)):=by
 obtain⟨slot,hf,h⟩:=Kx ha;clear ha;have hsz:es.size=hs.size:=by rw[<-he,KA]
 have hm:(iY es (t.put slot).2 (i,x)).map (·.1)=iY hs (t.put slot).2 i:=by rw[WY,he]
 have jP:(iY es (t.put slot).2 (i,x)).size=(iY hs (t.put slot).2 i).size:=WZ _ _ hsz _ _ _;have lay:∀f:(t.put slot).1.fits (iY hs (t.put slot).2 i).size=true,layNew t es i x=(iY es (t.put slot).2 (i,x),(t.put slot).1,false,false):=λf=>by unfold layNew;rw[show t.freeSlot i=_ from hf];simp only[jP,SetTable.orStandIn,f,if_true,W3]
 refine⟨_,_,Ek h (λf Y Y=>lay f) λf Y Y Y Y Y=>lay f, ?_⟩;generalize iY hs (t.put slot).2 i=g1 at*;clear hf he hsz lay;refine Ek h (λY u e=>.inl ⟨u,by rw[hm];exact e.symm⟩) λY u r hr hc e=>.inr ⟨u,r.2.filterMap ((iY es (t.put slot).2 (i,x))[·]?), ?_,by rw[Kz,hm];exact congrArg (·.1) e⟩;have jk:(coversAll r.2 g1.size && r.1.fits (r.2.filterMap ((iY es (t.put slot).2 (i,x))[·]?)).size)=true:=by rw[<-KA (f:=λe:Int×ai=>e.1),Kz,hm];exact hc
 unfold relayAll;rw[hm,jP,hr];simp only[jk,if_true];rw[<-e]
abbrev small(i:Int):Prop:=2<=i/\i<=10
def KC(h:small i):hashInt i=i:=by
 obtain⟨h1,h2⟩:=h;obtain⟨n,rfl⟩:=Ax (k5 (by decide) h1);have:∀n:Fin 11,hashInt ((n.val:Nat):Int)=((n.val:Nat):Int):=by decide
 exact this ⟨n,W4 (sa.mp h2)⟩
abbrev pU(es:Array (Int×ai))(hs:Array Int):Prop:=es.map (·.1)=hs/\∀e∈es.toList,small e.1/\∃t,e.2= .int e.1 t
abbrev sN(h:Heap)(S:Addr)(p:Array Int×eE):Prop:=∃es ep,h.get? S=some {cls:=.type "set",dict:=none,data:=.set es ep p.2,slots:= #[]}/\pU es p.1
def pU.elems(h:pU es hs):ElemsOf (cV prog w) es.toList:=λe he=>by
 obtain⟨a,t,b⟩:=h.2 e he;exact⟨⟨e.1,by rw[b];exact intKind_is _ _ _ _,(KC a).symm⟩,by rw[b];rfl⟩
def pU.size(h:pU es hs):es.size=hs.size:=by rw[<-h.1,KA]
def pU.perm{iy:Array (Int×ai)}{l:List (Int×ai)}(h:∀e∈l,small e.1/\∃t,e.2= .int e.1 t)(p:List.Perm iy.toList l)(e:iy.map (·.1)=hs):pU iy hs:=⟨e,λx hx=>h x (p.mem_iff.mp hx)⟩
def W5{Q:Unit->ao->Prop}(q:Q () s):aq (model prog w) A (match false with|true=>rule "set.scan.the-table-gave-way"|false=>pure ()) Q E s:=aF q
def W6{t:Tok}{Q:Bool->ao->Prop}(hi:small i)(hS:sN s.heap S p)(hn:i∉p.1)(hf:p.2.fits p.1.size=true)(hp:p.2.plain=true)(hz:p.1.size<=20)(ha:sJ p i=some q)
 (h:∀h',sN h' S q->q.1.toList.Perm (p.1.toList++[i])->uE S s.heap h'->Q true {s with heap:=h',toks:=s.toks+1}):aq (model prog w) A (setAdd S (.int i t)) Q E s:=by
 obtain⟨es,ep,ho,hE⟩:=hS;obtain⟨hs,T⟩:=p;obtain⟨eY,t1,hL,hc⟩:=W2 ha hE.1 (.int i t);have hsz:=hE.size;have El:T.fits es.size=true:=by rw[hsz];exact hf
 unfold setAdd;refine dD ?_;refine b8 ((cV prog w).pyHash (k:=i) (intKind_is _ _ _ _) ?_);unfold setAddHashed setAddHashedIn;refine dD (b8 (wpAny_setState_of (s:={s with toks:=s.toks+1}) ho rfl El ?_));dsimp only;have hb:es.size<scanBound:=by rw[hsz];exact iT hz (by decide)
 rw[byScan_of (knd:=cV prog w) rfl hb hE.elems];refine wpAny_ite_true rfl ?_;unfold setAddByScan;refine wB ?_;refine wB (mS ?_);refine b8 (wpAny_setScan_of (knd:=cV prog w) (k:=i) (s:={s with toks:=s.toks+1}) (intKind_is _ _ _ _) ho rfl El hE.elems ?_);have Ay:es.toList.findIdx? (λe=>(cV prog w).is i e.2)=none:=Ti.mpr λe he=>by
  obtain⟨_,u,b⟩:=hE.2 e he;rw[b];refine decide_eq_false λq=>hn ?_;rw[<-hE.1];exact Array.mem_map.mpr ⟨e,W7.mp he,q⟩
 rw[Ay];dsimp only;rw[show(cV prog w).hash i=i from KC hi,hL];dsimp only;have pe:∀e∈(es.push (i,zK i t)).toList,small e.1/\∃t,e.2= .int e.1 t:=λe he=>by
  rw[KD]at he;rcases dA.mp he with he|he
  .exact hE.2 e he
  .rw[bV.mp he];exact⟨hi,t,rfl⟩
 have p1:=layNew_perm T es i (.int i t);rw[hL]at p1;have z1:eY.size=es.size+1:=by rw[<-js,p1.length_eq,js,Array.size_push]
 refine b8 (W5 ?_);have tail:aq (model prog w) A (do
  storeSet S eY t1
  if(!false && t1.tooFull)=true then do
   (match(relayAll t1 eY (uP eY.size)).2.2 with|true=>rule "set.scan.the-table-gave-way"|false=>pure ():Sem Unit)
   storeSet S (relayAll t1 eY (uP eY.size)).1 (relayAll t1 eY (uP eY.size)).2.1
   pure (some true)
   else pure (some true)) (λr s'=>aq (model prog w) A (match r with|some added=>pure added|none=>setAddHashedIn S (.int i t) i 99999) Q E s') E {s with toks:=s.toks+1}:=by
  have KG:eY.size<=sizeLine:=by rw[z1,hsz];exact bx (mQ hz) (by decide)
  refine b8 (wpAny_storeSet_of (s:={s with toks:=s.toks+1}) ho rfl ?_ KG);have uO:=kY (KH eY t1) ho rfl;have m1:(eY.map (·.1)).toList.Perm (hs.toList++[i]):=by
   rw[wZ,show hs=es.map (·.1)from hE.1.symm,wZ];have:=p1.map (·.1)
   rwa [KD,cD]at this
  rcases hc with⟨Em,hq⟩|⟨Em,uQ,hr,KI⟩
  .rw[Em];refine aF (aF (h _ ⟨eY,ep+1,by rw[hq];exact uO,hq▸pU.perm pe p1 rfl⟩ (hq▸m1) (Ab ..)))
  .rw[Em,hr];have p2:=relayAll_perm t1 eY (uP eY.size);rw[hr]at p2;have Az:uQ.size<=sizeLine:=by rw[<-js,p2.length_eq,js];exact KG
   refine b8 (aF (b8 (wpAny_storeSet_of (s:={s with heap:=s.heap.update S (KH eY t1),toks:=s.toks+1}) uO rfl ?_ Az)));have jM:=kY (KH uQ q.2) uO rfl;exact aF (aF (h _ ⟨uQ,ep+1+1,jM,pU.perm (λe he=>pe e (p1.mem_iff.mp he)) p2 KI⟩ (by rw[<-KI,wZ];have:=p2.map (·.1);exact this.trans (by rwa [wZ]at m1)) ((Ab ..).trans (Ab ..))))
 split
 .rw[hashByValue_scannable 8 rfl];exact b8 (aF tail)
 .exact b8 (aF tail)
abbrev Good:Array Int×eE->List Int->Prop
 |p,[]=>sM p=true
 |p,i::r=>sM p=true/\∃q,sJ p i=some q/\Good q r
def shift(i:Int)(f:Nat):i+((f+1:Nat):Int)=i+1+f:=by rw[W8,KL 1];rfl
def W9:∀(f:Nat) (a:Int) (p:Array Int×eE) (r:List Int),Aw f a p=true->sM p=true->r.Pairwise (·<·)->(∀i∈r,a<=i/\i<a+f)->Good p r:=by
 intro f;induction f with
 |zero=>
  intro a p r _ hp _ hr;cases r with
  |nil=>exact hp
  |cons i r=>exact absurd (hr i (.head _)).1 (wm.mpr (I8 (hr i (.head _)).2 (C9 (Int.add_zero a))))
 |succ f ih=>
  intro a p r hg hp hs hr;cases r with
  |nil=>exact hp
  |cons i r=>
  replace hg:=lQ.mp hg;have h1:=hr i (.head _);have h2:=uv.mp hs;by_cases e:i=a
  .subst e;cases ha:sJ p i with
   |none=>rw[ha]at hg;exact cu hg.2
   |some q=>
    rw[ha]at hg;obtain⟨g1,g2⟩:=(eO _ _).mp hg.2;exact⟨hp,q,ha,ih (i+1) q r g2 g1 h2.2 λj hj=>⟨h2.1 j hj,shift i f▸(hr j (.tail _ hj)).2⟩⟩
  .exact ih (a+1) p (i::r) hg.1 hp hs λj hj=>⟨by
    cases hj with
    |head=>exact W'.mpr ⟨h1.1,λq=>e q.symm⟩
    |tail _ hj=>exact ug h1.1 (h2.1 j hj),shift a f▸(hr j hj).2⟩
structure GT(led:Bool)(p:Array Int×eE):Prop where
 walk:rB p.2 p.1.size=true
 plain:p.2.plain=true
 led:p.2.led=led
 fits:p.2.fits p.1.size=true
 size:p.1.size<=20
def GT.of(h:sM p=true)(hl:p.2.led=led):GT led p:=by simp only[sM,eO]at h;exact⟨h.1.1.1,h.1.1.2,hl,h.1.2,pC h.2⟩
variable{vs:List ai}{is:List Int}
section
variable{I l:Addr}
def Xa(hh:A.handled=none)(hi:IntsAre vs is)(k7:∀i∈is,small i)(w5:S≠I)(En:S≠l)(Eo:l≠I):
 ∀(r:List Int) (k:Nat) (s:ao) (p:Array Int×eE),is.drop k=r->k<=is.length->p.1.toList.Perm (is.take k)->p.2.led=led->Good p r->(is.Pairwise (·<·))->s.heap.IsList l vs.toArray->s.heap.IsListIter I l k->sN s.heap S p->(∀h' tk q,sN h' S q->GT led q->q.1.toList.Perm is->(∀b o,b≠S->b≠I->s.heap.get? b=some o->h'.get? b=some o)->R (.ok (.ret .none)) {s with heap:=h',toks:=tk})->iV (model prog w) A (.builtin "set.update.loop" ⟨[.ref S,.ref I],[]⟩) R s:=by
 intro r;induction r with
 |nil=>
  intro k s p hr hk hp AA hg hs hl hit hS hR;have fF:is.length<=k:=Kn.mp hr;refine mY Xb ?_;rw[Ea KN _];show aq _ A.in1 (pyNext (.ref I) >>= _) _ _ s;refine wB (wpAny_pyNext_list_end (A:=A.in1) hh hit hl (by simp[uN hi];exact fF) λh' hx=> ?_);show aq _ A.in1 (ret jl) _ _ _;obtain⟨es,ep,ho,hE⟩:=hS;rw[zJ fF]at hp;exact aF (hR h' s.toks p ⟨es,ep,hx _ _ w5 ho,hE⟩ (.of hg AA) hp λb o Y hb e=>hx _ _ hb e)
 |cons i r ih=>
  intro k s p hr hk hp AA hg hs hl hit hS hR;have fF:k<is.length:=WA λq=>by rw[Ef q]at hr;cases hr
  rw[Ar fF]at hr;obtain⟨e1,e2⟩:=zp hr;obtain⟨t,et⟩:=Ee hi k fF;rw[e1]at et;obtain⟨Xc,q,ha,Xd⟩:=hg;have G:=GT.of Xc AA;refine mY Xb ?_;rw[Ea KN _];show aq _ A.in1 (pyNext (.ref I) >>= _) _ _ s;refine wB (wpAny_pyNext_list_item hit hl (x:=.int i t) (by simpa using et) λh1 Xe jP=> ?_);show aq _ A.in1 (holding [zK i t] (setAdd S (.int i t)) >>= _) _ _ _;refine wB (dD ?_);obtain⟨es,ep,ho,hE⟩:=hS;have iE:i∈is:=e1▸C8 fF;have Xf:i∉p.1:=λhm=>by
   have mP:=hp.mem_iff.mp (W7.mpr hm);obtain⟨j,hj,ej⟩:=WU mP;rw[List.getElem_take]at ej;have iw:j<k:=eM hj (by rw[m8];exact Xg ..);have:=List.pairwise_iff_getElem.mp hs j k (sj iw fF) fF iw;rw[ej,e1]at this;exact Xh _ this
  refine W6 (s:={s with heap:=h1}) (k7 i iE) ⟨es,ep,jP.extBut _ _ w5 ho,hE⟩ Xf G.fits G.plain G.size ha λh2 nf sO sk=> ?_;refine aF ⟨pR KN _,ih (k+1) _ q e2 fF ?_ ((WX ha).trans AA) Xd hs ?_ ?_ nf λh' tk q' a1 a2 a3 a4=> ?_⟩
  .rw[Xi,dS fF,e1];exact sO.trans (hp.append_right _)
  .exact hl.elim λo x=>⟨o,sk.extBut _ _ En.symm (jP.extBut _ _ Eo x.1),x.2⟩
  .exact Xe.extBut sk.extBut w5.symm
  .exact hR h' tk q' a1 a2 a3 λb o b1 b2 e=>a4 b o b1 b2 (sk.extBut _ _ b1 (jP.extBut _ _ b2 e))
def Xj(a:ai){Q₁:ai->ao->Prop}(h:Q₁ (.ref s.heap.objs.size) {s with heap:=s.heap.push {cls:=.type "set",dict:=none,data:=.set #[] 0 (.fresh 0 0 (!w.params.followText "set-order"))}}):
 iV (model prog w) A (.call (.builtin "set.__new__") ⟨[.type "set",a],[]⟩) (wants Q₁ E) s:=by
 refine codeAny_of_tree ?_;show aq _ A.in1 (do checkBuiltinCall "set.__new__" ⟨[.type "set",a],[]⟩;again (.builtin "set.__new__" ⟨[.type "set",a],[]⟩)) _ _ s;refine wB (wpAny_of_eq (PySem.F.newCall_set_1 a) (aF ⟨pR Xk _,mY PySem.F.entry_set_new ?_⟩));rw[Ea Xk _];unfold Builtin.«set.__new__» ajM;have gz:=sub_set_self;obtain⟨hp,g,d,tk,os⟩:=s;dsimp only
 wp_walk
 refine zD (aF ?_);dsimp only;simp only[newObj];refine wB (wpAny_alloc (aF ?_));exact aF h
def Xl(hh:A.handled=none){led:Bool}(hi:IntsAre vs is)(k7:∀i∈is,small i)(hs:is.Pairwise (·<·))
 {l S:Addr} (hl:s.heap.IsList l vs.toArray) (En:S≠l) (hS:s.heap.get? S=some {cls:=.type "set",dict:=none,data:=.set #[] 0 (.fresh 0 0 led)})
 (hQ:∀h' tk q,sN h' S q->GT led q->q.1.toList.Perm is->(∀b o,b≠S->s.heap.get? b=some o->h'.get? b=some o)->Q .none {s with heap:=h',toks:=tk}):
 iV (model prog w) A (.call (.builtin "set.__init__") ⟨[.ref S,.ref l],[]⟩) (wants Q E) s:=by
 refine codeAny_call_builtin sP.init.plain PySem.F.entry_set_init (check_set_init_1 ⟨_,hS,rfl⟩ ?_);have Eo:l≠s.heap.objs.size:=hl.elim λo x=>eN (eQ x.1);have w5:S≠s.heap.objs.size:=eN (eQ hS);have dp:=hl;obtain⟨⟨ajN,ajO,ajP,ajQ⟩,uy,n9,nl,rn⟩:=hl;dsimp only at n9 rn;subst n9 rn;have ajR:=PySem.F.sub_list_set;have ajS:=PySem.F.sub_list_frozenset;have ba:(pS "list"==pS "dict")=false:=by decide
 unfold Builtin.«set.__init__» noKeywords ajT;generalize Xm:pyIter=PI;obtain⟨hp,g,d,tk,os⟩:=s
 wp_walk
 subst Xm;refine wpAny_pyIter_list dp ?_;refine b8 (wpAny_runValue ?_);refine Xa (A:=A.in1) (led:=led) hh hi k7 w5 En Eo is 0 _ (#[],Ky 0 0 led) rfl (dJ _) .nil rfl (W9 9 2 _ is (t9 led) (WV led) hs λi lV=> ?_) hs ?_ ?_ ?_ λh' DW q a1 a2 a3 a4=> ?_
 .exact⟨(k7 i lV).1,ug (k7 i lV).2 (by decide)⟩
 .exact dp.push _
 .exact⟨_,dX _ rfl,rfl,rfl⟩
 .exact⟨#[],0,cS _ hS,by simp,λe he=>nomatch he⟩
 .refine aF (aF (hQ h' DW q a1 a2 a3 λb o hb e=>a4 b o hb (eN (eQ e)) (cS _ e)))
def Xn(hh:A.handled=none)(ma:led= !w.params.followText "set-order")(hi:IntsAre vs is)(k7:∀i∈is,small i)(hs:is.Pairwise (·<·))
 {l:Addr} (hl:s.heap.IsList l vs.toArray) {Q:ai->ao->Prop}
 (hQ:∀h' tk q,sN h' s.heap.objs.size q->GT led q->q.1.toList.Perm is->(∀b o,s.heap.get? b=some o->h'.get? b=some o)->Q (.ref s.heap.objs.size) {s with heap:=h',toks:=tk}):
 aq (model prog w) A (call (.type "set") [.ref l]) Q E s:=by
 obtain⟨c,tl,ajU⟩:=sP.mro;have ajV:=sP.made;have gz:=sP.sub;refine wpAny_call (codeAny_of_tree ?_);show aq _ _ (callAny (.type "set") _) _ _ _;refine aF ⟨Code.quiet_builtin _ (by decide+kernel),mY PySem.F.entry_type_call ?_⟩;rw[Around.under_plain (weight_type_call_type "set" [.ref l] []) rfl];have h1:=sP.notType;have h2:=sP.canCreate;have V4:=PySem.F.typeCall_set_1 (.ref l)
 repeat(any_goals(first|assumption|wp_step))
 refine codeAny_mono (Xj (.ref l) (E:=E) (Q₁:=λobj dO=>obj= .ref s.heap.objs.size/\dO={s with heap:=s.heap.push {cls:=.type "set",dict:=none,data:=.set #[] 0 (.fresh 0 0 led)}}) ⟨rfl,by rw[ma]⟩) λr dO hr=> ?_;cases r with
 |error e=>exact hr
 |ok fl=>
  cases fl with
  |ret obj=>
   obtain⟨rfl,rfl⟩:=hr;have hS:(s.heap.push {cls:=.type "set",dict:=none,data:=.set #[] 0 (.fresh 0 0 led)}).get? s.heap.objs.size=some {cls:=.type "set",dict:=none,data:=.set #[] 0 (.fresh 0 0 led)}:=dX _ rfl;have hT:Kh {s with heap:=s.heap.push {cls:=.type "set",dict:=none,data:=.set #[] 0 (.fresh 0 0 led)}} (.ref s.heap.objs.size) "set":=⟨_,hS,rfl⟩;have hli:=sP.init.lookup;have hbi:=sP.init.bind (.ref s.heap.objs.size)
   repeat(any_goals(first|assumption|wp_step))
   refine codeAny_mono (Xl (A:=A.in1) (s:={s with heap:=s.heap.push {cls:=.type "set",dict:=none,data:=.set #[] 0 (.fresh 0 0 led)}}) (E:=E) (Q:=λr KO=>r= .none/\Q (.ref s.heap.objs.size) KO) hh hi k7 hs (hl.push _) (hl.elim λo x=>jR (eQ x.1)) hS
    λh' tk q a1 a2 a3 a4=>⟨rfl,hQ h' tk q a1 a2 a3 λb o e=>a4 b o (eN (eQ e)) (cS _ e)⟩) λXo KO Ep=> ?_
   cases Xo with
   |error e=>exact Ep
   |ok Xp=>
    cases Xp with
    |ret r=>
     obtain⟨rfl,hq⟩:=Ep
     repeat(any_goals(first|assumption|wp_step))
    |_=>exact Ep.elim
  |_=>exact hr.elim
end
end
variable{f:Str}
section
def uR:Slot "set_iterator" "__next__" "set_iterator.__next__":=
 .of (owner:="set_iterator") (n:="__next__") rfl rfl rfl rfl
  (by first|exact .inl rfl|exact .inr rfl) rfl
def KP:entryFor table "set_iterator.__next__"=some Builtin.«set_iterator.__next__»:=entryFor_of_tree rfl
def KQ(a:ai):argsOk "set_iterator.__next__" ⟨[a],[]⟩:=by kernel_rfl
def Xq:entryFor table "set.__iter__"=some Builtin.«frozenset.__iter__»:=entryFor_alias (id':="frozenset.__iter__") (by rw[fastTable_eq_tree];kernel_rfl) rfl (by kernel_rfl) (by rw[fastTable_eq_tree];kernel_rfl)
@[reducible]abbrev rC(es:Array (Int×ai))(ep:Nat)(t:eE):Obj:={cls:=.type "set",dict:=none,data:=.set es ep t,slots:= #[]}
@[reducible]abbrev mc(slot i:Nat)(S:Addr)(n ep:Nat):Obj:={cls:=.type "set_iterator",data:=.fields #[gf slot,gf i,.ref S,gf n,gf ep]}
section
variable{es:Array (Int×ai)}{ep:Nat}
abbrev k8(w:bQ)(es:Array (Int×ai))(S ep:Nat):Array (Int×ai):=if w.params.followText "set-order"=true then pickOrder (w.params.setOrder S ep) es else es
abbrev md(w:bQ)(t:eE)(i:Nat):Nat:=if w.params.followText "set-order"=true then 0 else slotAt t i
def Xr(ho:s.heap.get? S=some (rC es ep t))(hf:t.fits es.size=true)(hp:t.plain=true)
 (h:Q (.ref s.heap.objs.size) {s with heap:=s.heap.push (mc 0 0 S es.size ep)}):aq (model prog w) A (pyIter (.ref S)) Q E s:=by
 have hT:s.TypeIs (.ref S) "set":=⟨_,ho,rfl⟩;refine wpAny_pyIter_slot hT Xt (iW Xt hT Xq ?_ (PySem.F.args_set_iter_1 _));refine wB (m:=ajW "__iter__" _) (aF ?_);refine wB (wB (wpAny_setEntries_of ho rfl hf (aF ?_)));refine wB (wB (wpAny_setState_of ho rfl hf ?_));refine wB (wB (zD (aF (aF ?_))));have hd:(!(w.params.followText "set-order") && (!t.plain && decide (es.size>1)))=false:=by rw[hp];simp
 show aq _ _ (if(!(w.params.followText "set-order") && (!t.plain && decide (es.size>1)))=true then _ else _) _ _ _;rw[hd];refine wB (aF ?_);refine wB (wpAny_setEpoch_of ho rfl hf ?_);refine wB ?_;refine Ac ?_ (by size_fits);exact aF ⟨_,rfl,"set_iterator",_,⟨_,dX _ rfl,rfl⟩,uR.lookup,h⟩
def KR(ma:led= !w.params.followText "set-order")(hw:rB t es.size=true)(hp:t.plain=true)(jt:t.led=led)(hf:t.fits es.size=true)(hi:i<=es.size){Q:Option (ai×Nat)->ao->Prop}(ho:s.heap.get? S=some (rC es ep t))
 (h:Q ((k8 w es S ep)[i]?.map λe=>(e.2,md w t (i+1))) s):aq (model prog w) A (setNext S (md w t i) i ep) Q E s:=by
 refine wB (wpAny_setState_of ho rfl hf ?_);unfold k8 md at h;unfold md;show aq _ _ (if(w.params.followText "set-order")=true then _ else _) _ _ _;by_cases hb:w.params.followText "set-order"=true
 .rw[if_pos hb];rw[if_pos hb,if_pos hb]at h;simp-iota only[bne_self_eq_false];refine wB ?_;refine wB (wpAny_setState_of ho rfl hf ?_);show aq _ _ (if(w.params.followText "set-order")=true then _ else _) _ _ _;rw[if_pos hb];refine wB (zD (aF (aF ?_)));rw[if_pos hb];exact h
 .rw[if_neg hb];rw[if_neg hb,if_neg hb]at h;have hl:t.led=true:=by rw[jt,ma];simpa using hb
  show aq _ _ (if(!t.plain && decide (es.size>1))=true then _ else _) _ _ _;rw[hp];refine wB ?_;show aq _ _ (if(!t.led && !es.isEmpty)=true then _ else pure ()) _ _ _;rw[hl];refine aF ?_;rw[if_neg hb];simp-iota only[rB,eO,beq_iff_eq,fE]at hw;rw[(hw.2 i (Eh.mpr (W4 hi)))];refine aF ?_;by_cases cB:i<es.size
  .have rD:i<t.place.size:=hw.1▸cB;have e3:es[i]? =some es[i]:=AB cB;have e4:slotAt t (i+1)=t.place[i]+1:=by unfold slotAt;simp[rD]
   rw[e3]at h⊢;rw[(AB rD)];rw[e4]at h;exact h
  .have e3:es[i]? =none:=Xu (fT.mp cB);rw[e3]at h⊢;exact h
def Xv{I:Addr}(ma:led= !w.params.followText "set-order")(hw:rB t es.size=true)(hp:t.plain=true)(jt:t.led=led)(hf:t.fits es.size=true)(hi:i<=es.size)(ho:s.heap.get? S=some (rC es ep t))
 (hI:s.heap.get? I=some (mc (md w t i) i S es.size ep)) {e:Int×ai} (he:(k8 w es S ep)[i]? =some e) {Q:Option ai->ao->Prop}
 (h:∀h',h'.get? I=some (mc (md w t (i+1)) (i+1) S es.size ep)->uE I s.heap h'->Q (some e.2) {s with heap:=h'}):aq (model prog w) A (pyNext (.ref I)) Q E s:=by
 have hT:s.TypeIs (.ref I) "set_iterator":=⟨_,hI,rfl⟩;refine wB (wpAny_attempt (wpAny_callSpecial?_slot (name:=aM "__next__") hT uR (iW uR hT KP ?_ (KQ _))));refine wB (m:=slotArgs "__next__" 0 _) (aF ?_);refine wB (wpAny_fieldsOf hI rfl ?_);refine b8 (wpAny_setEntries_of ho rfl hf ?_);rw[if_neg (by simp)];show aq _ _ (setNext S (md w t i) i ep >>= _) _ _ _;refine wB (KR ma hw hp jt hf hi ho ?_);rw[he];refine wB (uK hI (by simp) λh1 AD jP=> ?_);refine wB (uK AD (by simp) λh2 AE sk=> ?_);exact aF ⟨_,rfl,aF (h h2 AE (jP.trans sk))⟩
def Xw{I:Addr}(hh:A.handled=none)(ma:led= !w.params.followText "set-order")(hw:rB t es.size=true)(hp:t.plain=true)(jt:t.led=led)(hf:t.fits es.size=true)(hi:i<=es.size)(ho:s.heap.get? S=some (rC es ep t))
 (hI:s.heap.get? I=some (mc (md w t i) i S es.size ep)) (he:(k8 w es S ep)[i]? =none) {Q:Option ai->ao->Prop}
 (h:∀h',uF I s.heap h'->Q none {s with heap:=h'}):aq (model prog w) A (pyNext (.ref I)) Q E s:=by
 have hT:s.TypeIs (.ref I) "set_iterator":=⟨_,hI,rfl⟩;refine wB (wpAny_attempt (wpAny_callSpecial?_slot (name:=aM "__next__") hT uR (iW uR hT KP ?_ (KQ _))));refine wB (m:=slotArgs "__next__" 0 _) (aF ?_);refine wB (wpAny_fieldsOf hI rfl ?_);refine b8 (wpAny_setEntries_of ho rfl hf ?_);rw[if_neg (by simp)];show aq _ _ (setNext S (md w t i) i ep >>= _) _ _ _;refine b8 (KR ma hw hp jt hf hi ho ?_);rw[he];refine b8 (uK hI (by simp) λh1 AD jP=> ?_);refine wB ?_;refine wB (m:=firstArgMember _ _) (wpAny_of_eq (a:=jl) (by first|rfl|(simp-iota only[firstArgMember])) ?_);refine Ac ?_ (by size_fits);refine b8 (wpAny_handled ?_);rw[show A.in1.handled=none from hh];refine b8 (aF (wpAny_throw ?_));refine wB (wpAny_isInstance (T:="StopIteration") (b:=true) ⟨_,dX _ rfl,rfl⟩ Wq ?_);exact aF (h _ ((jP.extBut.push _).push _))
end
def KS:∀{l:List α} {i:Nat} (h:i<l.length),(l[i]::l.eraseIdx i).Perm l
 |a::l,0,_=>.refl _
 |a::l,i+1,h=>(List.Perm.swap a (l[i]'(Km h)) _).trans ((KS (Km h)).cons a)
set_option smartUnfolding false in
def pick_some{next:Nat->Nat}{f:Nat}{l:List α}{out:Array α}{x:α}(h:l[next k % l.length]? =some x):Er next (f+1) k l out=Er next f (k+1) (l.eraseIdx (next k % l.length)) (out.push x):=congrArg (λo:Option α=>zc (motive:=λY=>Array α) o out λx=>Er next f (k+1) (l.eraseIdx (next k % l.length)) (out.push x)) h
def Xx(next:Nat->Nat)(f k:Nat)(l:List α)(out:Array α)(h:l.length<=f):(Er next f k l out).toList.Perm (out.toList++l):=by
 induction f generalizing k l out with
 |zero=>rw[se.mp (KU.mp h),gv];exact .refl _
 |succ f ih=>
  cases l with
  |nil=>rw[gv];exact .refl _
  |cons a l=>
   have hj:next k % (a::l).length<(a::l).length:=Nat.mod_lt _ (As _)
   rw[pick_some (dS hj)];refine(ih (k+1) _ _ (by rw[List.length_eraseIdx,if_pos hj];exact yY (eM (by simp) h))).trans ?_;rw[KD,pV];exact List.Perm.append_left _ (KS hj)
def w7(w:bQ)(es:Array (Int×ai))(S ep:Nat):(k8 w es S ep).toList.Perm es.toList:=by
 unfold k8;split
 .exact(Xx _ es.size 0 es.toList #[] (by simp)).trans (by simp)
 .exact .refl _
def KV:Slot "set_iterator" "__iter__" "set_iterator.__iter__":=
 .of (owner:="set_iterator") (n:="__iter__") rfl rfl rfl rfl
  (by first|exact .inl rfl|exact .inr rfl) rfl
def Xy:entryFor table "set_iterator.__iter__"=some Builtin.«dict_keyiterator.__iter__»:=entryFor_alias (id':="dict_keyiterator.__iter__") (by rw[fastTable_eq_tree];kernel_rfl) rfl (by kernel_rfl) (by rw[fastTable_eq_tree];kernel_rfl)
def Xz(a:ai):argsOk "set_iterator.__iter__" ⟨[a],[]⟩:=by kernel_rfl
section
variable{es:Array (Int×ai)}{ep:Nat}
def XA{I:Addr}(hh:A.handled=none)(ma:led= !w.params.followText "set-order")(hw:rB t es.size=true)(hp:t.plain=true)(jt:t.led=led)(hf:t.fits es.size=true)(XB:I≠S):
 Walks prog w A I [I,S] [I] es.size (λi v=>∃e,(k8 w es S ep)[i]? =some e/\v=e.2) (λi h=>h.get? S=some (rC es ep t)/\h.get? I=some (mc (md w t i) i S es.size ep)) where
 sub:=λb hb=>by rw[bV.mp hb];exact .head _
 frame:=λi h h' st k=>⟨k S (.tail _ (.head _)) _ st.1,k I (.head _) _ st.2⟩
 item:=λi s Q E hi st hQ=>by
  have hsz:(k8 w es S ep).size=es.size:=by rw[<-js,(w7 w es S ep).length_eq,js]
  have he:=AB (hsz▸hi);exact Xv ma hw hp jt hf (pB hi) st.1 st.2 he λh' h1 h2=>hQ _ h' s.toks ⟨_,he,rfl⟩ ⟨h2.extBut _ _ XB.symm st.1,h1⟩ λb o hb e=>h2.extBut _ _ (λq=>hb (q▸ .head _)) e
 done:=λs Q E st hQ=>by exact Xw hh ma hw hp jt hf (bG _) st.1 st.2 (Xu (lD (by rw[<-js,(w7 w es S ep).length_eq,js]))) λh' h1=>hQ h' s.toks λb o hb e=>h1 _ _ (λq=>hb (q▸ .head _)) e
 self:=λi s Q E st hQ=>by have hT:s.TypeIs (.ref I) "set_iterator":=⟨_,st.2,rfl⟩;refine wpAny_pyIter_slot hT KV (iW KV hT Xy ?_ (Xz _));exact aF ⟨_,rfl,"set_iterator",_,hT,uR.lookup,hQ⟩
def XC(hT:s.TypeIs (.ref S) "set"){Q:Bool->ao->Prop}(hq:Q false s):aq (model prog w) A (Builtin.List.listLengthHint (.ref S)) Q E s:=by refine wB (sh hT PySem.F.slot_set_len.lookup ?_);generalize XD:("set.__len__":String)=id0;subst XD;refine wB (wpAny_isInstance (T:="set") (b:=true) hT sub_set_self ?_);exact wB (wpAny_typeOf hT (aF hq))
def XE(hh:A.handled=none)(ma:led= !w.params.followText "set-order")(hw:rB t es.size=true)(hp:t.plain=true)(jt:t.led=led)(hf:t.fits es.size=true)(hz:es.size<=20)(ho:s.heap.get? S=some (rC es ep t)){Q:List ai->ao->Prop}
 (hQ:∀h' tk acc,ItemsOf (λi v=>∃e,(k8 w es S ep)[i]? =some e/\v=e.2) acc es.size->(∀b o,s.heap.get? b=some o->h'.get? b=some o)->Q acc.toList {s with heap:=h',toks:=tk}):aq (model prog w) A (collect (.ref S)) Q E s:=by
 have cB:S<s.heap.objs.size:=eQ ho;have Es:(s.heap.push {cls:=.type "list",data:=.seq ([]:List ai).toArray}).get? S=some (rC es ep t):=cS _ ho;have D0:(s.heap.push {cls:=.type "list",data:=.seq ([]:List ai).toArray}).get? s.heap.objs.size=some {cls:=.type "list",data:=.seq ([]:List ai).toArray}:=dX _ rfl;refine wB (wpAny_runValue (mY PySem.F.entry_proto_collect ?_));refine wB (Ac ?_);refine aF ⟨pR PySem.F.plain_list_iadd _,mY PySem.F.entry_list_iadd ?_⟩;show aq _ A.in1 (XF (.ref s.heap.objs.size) (.ref S) (.ref s.heap.objs.size)) _ _ _;unfold XF;refine wB (wpAny_typeOf (T:="set") ⟨_,Es,rfl⟩ ?_);have h1:Ec (.ref s.heap.objs.size) (.ref S)=false:=by simp[Ec,jR cB]
 have h2:(pS "set"==pS "list")=false:=by decide
 have h3:(pS "set"==pS "tuple")=false:=by decide
 refine wpAny_ite_false (by rw[h1,h2,h3];rfl) ?_;refine wB (Xr (s:={s with heap:=s.heap.push {cls:=.type "list",data:=.seq ([]:List ai).toArray}}) Es hf hp ?_);refine wB (dD ?_);have nf:((s.heap.push {cls:=.type "list",data:=.seq ([]:List ai).toArray}).push (mc 0 0 S es.size ep)).get? S=some (rC es ep t):=cS _ Es;have XG:Kh {s with heap:=(s.heap.push {cls:=.type "list",data:=.seq ([]:List ai).toArray}).push (mc 0 0 S es.size ep)} (.ref S) "set":=⟨_,nf,rfl⟩;refine XC XG ?_;refine wpAny_ite_split (λY=> ?_) (λsG=>absurd (by kernel_rfl) sG);refine wB (mS ?_);have uH:((s.heap.push {cls:=.type "list",data:=.seq ([]:List ai).toArray}).push (mc 0 0 S es.size ep)).get? s.heap.objs.size=some {cls:=.type "list",data:=.seq ([]:List ai).toArray}:=cS _ D0;have AE:((s.heap.push {cls:=.type "list",data:=.seq ([]:List ai).toArray}).push (mc 0 0 S es.size ep)).get? (s.heap.push {cls:=.type "list",data:=.seq ([]:List ai).toArray}).objs.size=some (mc 0 0 S es.size ep):=dX _ rfl;have XH:(s.heap.push {cls:=.type "list",data:=.seq ([]:List ai).toArray}).objs.size=s.heap.objs.size+1:=sC ..;have k2:∀b o,s.heap.get? b=some o->((s.heap.push {cls:=.type "list",data:=.seq ([]:List ai).toArray}).push (mc 0 0 S es.size ep)).get? b=some o:=λb o e=>cS _ (cS _ e);refine wB ?_;show aq _ A.in1 (updateSeq s.heap.objs.size (·.push .none) >>= λY=>updateSeq s.heap.objs.size (·.pop)) _ _ _;refine wB (wpAny_updateSeq uH rfl ?_);have KW:=kY (dN (·.push jl)) uH rfl;refine wpAny_updateSeq KW rfl ?_;have KY:=kY (dN (·.pop)) KW rfl;dsimp only at KY⊢;rw[XH]at AE⊢;generalize(s.heap.push {cls:=.type "list",data:=.seq ([]:List ai).toArray}).push (mc 0 0 S es.size ep)=g2 at*;have mZ:∀b o,b≠s.heap.objs.size->g2.get? b=some o->((g2.update s.heap.objs.size (dN (·.push jl))).update s.heap.objs.size (dN (·.pop))).get? b=some o:=λb o hb e=>(kZ _ _ (b0 hb)).trans ((kZ _ _ (b0 hb)).trans e);generalize(g2.update s.heap.objs.size (dN (·.push jl))).update s.heap.objs.size (dN (·.pop))=g3 at*;have KZ:s.heap.objs.size+1≠s.heap.objs.size:=XI _;have slot0:md w t 0=0:=by unfold md slotAt;split<;>rfl
 refine aF ⟨pR D9 _,codeAny_extend_loopS (XA (A:=A.in1) hh ma hw hp jt hf (jR (Ej cB))).toS (bx hz (by decide)) s.heap.objs.size
  (λhm=>(bU.mp hm).elim (λe=>KZ e.symm) λhm=>jR cB (bV.mp hm)) _ es.size 0 _ _ _ rfl (dJ _)
  ⟨mZ _ _ (eN cB) nf,mZ _ _ KZ (by rw[slot0];exact AE)⟩ KY (ItemsOf.nil _) λs' uu c' hm sH jo=> ?_⟩
 rw[Moved.eq_with hm];refine wB (wpAny_load sH (aF (hQ s'.heap s'.toks uu jo λb o e=> ?_)));have hb:=eQ e;exact hm.heap b o (λq=>(bU.mp q).elim (eN hb) λq=>eN (Ej hb) (bV.mp q)) (mZ b o (eN hb) (k2 b o e))
def ints_map{l:List (Int×ai)}(h:∀e∈l,∃t,e.2=zK e.1 t):IntsAre (l.map (·.2)) (l.map (·.1)):=by
 induction l with
 |nil=>exact .nil
 |cons e l ih=>
  obtain⟨t,ht⟩:=h e (.head _);rw[eP,ht];exact .cons _ t (ih λe he=>h e (.tail _ he))
def XK(hh:A.handled=none){p:Array Int×eE}{is:List Int}(hS:sN s.heap S p)(G:GT (!w.params.followText "set-order") p)(hp:p.1.toList.Perm is)(hs:is.Pairwise (·<·))
 (hQ:∀h' tk out k a,s.heap.get? a=none->IntsAre out.toList is->h'.get? a=some (gX "list" out k)->(∀b o,s.heap.get? b=some o->h'.get? b=some o)->Q (.ref a) {s with heap:=h',toks:=tk}):
 aq (model prog w) A (call (.builtin "sorted") [.ref S]) Q E s:=by
 obtain⟨es,ep,ho,hE⟩:=hS;have hz:=hE.size;have hw:=G.walk;have hf:=G.fits;rw(occs:=.all) [<-hz]at hw hf;refine Jv kind_sorted plain_sorted entry_sorted (args_sorted1 _) ?_;refine wB (m:=checkCount "sorted" 1 1 _) (aF ?_);refine wB (XE (A:=A.in1) hh rfl hw G.plain G.led hf (by rw(occs:=.all) [hz];exact G.size) ho λh1 tk acc jo k1=> ?_);have hsz:(k8 w es S ep).size=es.size:=by rw(occs:=.all) [<-js,(w7 w es S ep).length_eq,js]
 have ox:acc.toList=(k8 w es S ep).toList.map (·.2):=by
  refine WO (by rw(occs:=.all) [aP,js,js,jo.1,hsz]) λi q1 q2=> ?_;have K3:i<acc.size:=by simpa using q1
  obtain⟨e,a1,a2⟩:=jo.2 i acc[i] (AB K3);rw(occs:=.all) [AB (by rw(occs:=.all) [hsz,<-jo.1];exact K3)]at a1;rw(occs:=.all) [XM,WQ,XM,a2,bF a1]
 have hints:IntsAre acc.toList ((k8 w es S ep).toList.map (·.1)):=by rw(occs:=.all) [ox];exact ints_map λe he=>(hE.2 e ((w7 w es S ep).mem_iff.mp he)).2
 have XN:((k8 w es S ep).toList.map (·.1)).Perm is:=by refine((w7 w es S ep).map (·.1)).trans ?_;rw(occs:=.all) [<-wZ,hE.1];exact hp
 have hlen:acc.toList.length<=20:=by rw(occs:=.all) [js,jo.1,hz];exact G.size
 refine wB (wpAny_newList ?_ (bx hlen (by decide)));have hg:(h1.push (gX "list" acc.toList.toArray 0)).get? h1.objs.size=some (gX "list" acc.toList.toArray 0):=dX _ rfl;refine wB (dD (iW (s:={s with heap:=h1.push (gX "list" acc.toList.toArray 0),toks:=tk}) slot_list_sort ⟨_,hg,rfl⟩ entry_list_sort (list_sort_tree hg hints (iT hlen (by decide)) λout Ur b1 b2 b3=>⟨_,rfl,aF ⟨_,rfl, ?_⟩⟩) (args_list_sort _)));have e:=ksm_same (b2.trans XN) b3 (hs.imp λh=>wo h);obtain⟨k,hk⟩:=sortedHeap_at (vs:=acc.toList) (out:=out) hg;refine hQ _ tk out k h1.objs.size ?_ (e▸b1) hk λb o e=> ?_
 .cases q:s.heap.get? h1.objs.size with
  |none=>rfl
  |some o=>exact absurd (eQ (k1 _ _ q)) (qW _)
 .have hb:=eQ (k1 b o e);rw(occs:=.all) [sortedHeap_old (eN hb) (sj hb (eQ hg))];exact cS _ (k1 b o e)
end
section
variable{st:ah}
def XO(O:Ok F)(S:ar F μ st s){xs:List V}{is:List Int}(R:cy A 1)(h0:st[l]? =some (.list xs))(hi:dZ xs=some is)(hs:pj is=true)
 (h:cg (is.map .int) st=some (v,U)) (P:aR F μ st s U v Q):aq F.m A (call (.type "set") [.ref (μ.ρ l)]) (λu s'=>aq F.m A (call (.builtin "sorted") [u]) Q E s') E s:=by
 obtain⟨vs,L,r,e⟩:=fV S h0;rw[pj,eO,fE]at hs;have pw:=of_decide_eq_true hs.2;refine Xn R.handled rfl (r.ints hi) (λi hi=>by have:=hs.1 i hi;rw[eO]at this;exact⟨of_decide_eq_true this.1,of_decide_eq_true this.2⟩) pw L λh1 tk q a1 a2 a3 a4=> ?_;refine XK R.handled (s:={s with heap:=h1,toks:=tk}) a1 a2 a3 pw λh2 XP out k a b1 b2 b3 b4=> ?_;refine P.ur (s':={s with heap:=h2,toks:=XP}) (vs:=out.toList) (n:=k) h S (aJ.JA b2) (λb o e=>b4 b o (a4 b o e)) ?_ (by assumption) rfl rfl;cases q:s.heap.get? a with
 |none=>rfl
 |some o=>have:=a4 _ _ q;rw[show h1.get? a=none from b1]at this;cases this
end
end
section
section
variable{st:ah}
def XQ{f:ai×ai->PUnit->Sem (ForInStep PUnit)}(hf:∀k v u,f (k,v) u=(do dictSet d k v;pure (.yield ⟨⟩)))(R:cy A 1):∀{kvs:List (V×V)} {ws:List (ai×ai)} {dv:V} {st U:ah} {μ:Mp} {s:ao} {i:Unit} {Q:PUnit->ao->Prop},ar F μ st s->VR μ.ρ st.length s.heap dv (.ref d)->jf dv kvs st=some (i,U)->ws.length=kvs.length->(∀(j:Nat) p q,kvs[j]? =some p->ws[j]? =some q->VR μ.ρ st.length s.heap p.1 q.1/\VR μ.ρ st.length s.heap p.2 q.2)->gu F μ st s U (Q ⟨⟩)->aq F.m A (forIn ws PUnit.unit f) Q E s:=by
 intro kvs;induction kvs with
 |nil=>
  intro ws dv st U μ s i Q S xd h hl hv P;obtain⟨_,rfl⟩:=rt_some h;rw[se.mp hl];exact aF (P μ s S (Step.refl ..))
 |cons p kvs ih=>
  intro ws dv st U μ s i Q S xd h hl hv P;obtain⟨q,ws,rfl⟩:=List.exists_cons_of_length_eq_add_one hl;obtain⟨_,au,h1,h2⟩:=bd_some h;obtain⟨x,y⟩:=hv 0 p q rfl rfl;rw[Am,hf q.1 q.2];refine wB (wB (Ds (Q:=λY=>aq F.m A (pure (ForInStep.yield PUnit.unit)) _ E) S (by have:=R.units;(exact aG (.add (.add af kH) aX) ak [.l (.add (.add (.add af (.mulL 10 aX)) kG) aX) ak] rfl this)) h1 xd x y λbj s1 S1 T1=>aF ?_));exact ih S1 (T1.VR xd) h2 (iS hl) (λj p q hp hq=>(hv (j+1) p q hp hq).imp T1.VR T1.VR) (P.after T1)
end
end
variable{b:BI}
section
variable{a:V}{us:List ai}{as:List V}
section
variable{st:ah}{I:aT}{aa:aO}
def aJ.one{h:Heap}(r:aJ ρ N h [a] us):∃u,us=[u]/\VR ρ N h a u:=by
 cases r with
 |cons x r=>cases r;exact⟨_,rfl,x⟩
def aJ.two{h:Heap}{b:V}(r:aJ ρ N h [a,b] us):∃u w,us=[u,w]/\VR ρ N h a u/\VR ρ N h b w:=by
 cases r with
 |cons x r=>obtain⟨w,rfl,y⟩:=r.one;exact⟨_,_,rfl,x,y⟩
def me{f:V->M α}{r:α×ah}(h:bd (one as) f st=some r)(hv:aJ ρ N hp as us)(k:∀a u,us=[u]->VR ρ N hp a u->f a st=some r->C):C:=zd h λa e h=>by subst e;obtain⟨u,e,x⟩:=hv.one;exact k a u e x h
def XR(O:Ok F)(S:ar F μ st s)(R:cy A 1)(x:VR μ.ρ st.length s.heap a u)(h:Ih a st=some (v,U))(P:aR F μ st s U v Q):aq F.m A (call (.builtin "len") [u]) Q E s:=by
 cases x with
 |tup ht hs=>
  refine bc h λY au h1 h2=> ?_;obtain⟨hc,e⟩:=fits_some h1;exact TX S hc (.tup ht hs) (show aR F μ st s st _ _ from e▸P.rt h2)
 |ab hl=>
  refine bc h λo au h1 h2=> ?_;obtain⟨h3,e⟩:=getO_some h1;cases o with
  |list xs=>exact TY S h3 (show aR F μ st s st _ _ from e▸P.rt h2)
  |dict kvs ep=>exact T9 O S h3 (show aR F μ st s st _ _ from e▸P.rt h2)
  |inst _ _=>exact noNS h2
 |none=>exact noNS h
 |bool _=>exact noNS h
 |int _ _=>exact noNS h
 |str _ _=>exact noNS h
 |cY _ _=>exact noNS h
def XS(hh:A.handled=none)(O:Ok F)(S:ar F μ st s){kvs:List (V×V)}{ep:Option Nat}(h0:st[l]? =some (.dict kvs ep))(hk:kvs.all (λp=>p.1.isInt)=true)
 (h:cg (kvs.map (·.1)) st=some (v,U)) (P:aR F μ st s U v Q):aq F.m A (call (.type "list") [.ref (μ.ρ l)]) Q E s:=by
 obtain⟨es,n,e,hd,r,nd,hc,_⟩:=dictAt S h0;obtain⟨ks,D,m,hv,_⟩:=zr S h0 hk;have ns:=O.pz S (b9.mp h0).1;rw[<-e]at ns;have hlen:ks.length=kvs.length:=by have:=congrArg n7 m;simpa using this
 obtain⟨dY,DJ⟩:=D.dictAt;refine kdl_call (kdl_dict (knd:=cV F.prog F.w) (kvs:=ks) (ep:=dY) ns) hh DJ (hlen▸bx hc iU) λh' tk uu c' k hD jo=> ?_;refine P.ur (s':={s with heap:=h',toks:=tk}) (vs:=uu.toList) (n:=c') h S ?_ k (pE _) (by assumption) rfl rfl;refine aJ.of_get (by simp[jo.1,hlen]) λj u hj=> ?_;obtain⟨kk,x,hx,Et⟩:=jo.2 j u (by simpa using hj);clear hj;obtain⟨t,rfl⟩:=Dw Et;have hm:(ks.map λp=>V.int p.1)[j]? =some (.int kk):=by rw[fh,hx];rfl
 rw[m]at hm;exact⟨_,hm,.int kk t⟩
def XT(O:Ok F)(S:ar F μ st s)(R:cy A 1)(x:VR μ.ρ st.length s.heap a u)(h:Ii a st=some (v,U))(P:aR F μ st s U v Q):aq F.m A (call (.type "list") [u]) Q E s:=by
 cases x with
 |cY hc hr=>exact Ub S (R.mono (dJ _)) (.cY hc hr) h P
 |ab hl=>
  refine bc h λo au h1 h2=> ?_;obtain⟨h3,e⟩:=getO_some h1;subst e;cases o with
  |list xs=>exact Ua S h3 h2 P
  |dict kvs ep=>exact XS R.handled O S h3 (if_some h2).1 (if_some h2).2 P
  |inst _ _=>exact noNS h2
 |none=>exact noNS h
 |bool _=>exact noNS h
 |int _ _=>exact noNS h
 |str _ _=>exact noNS h
 |tup _ _=>exact noNS h
def XU{xs:List V}{r:V×ah}(h:vV xs st=some r)(k1:∀is,dZ xs=some is->xs.length<64->cg ((sortI is).map .int) st=some r->C)(k2:xs.length<64->(bd (qQ xs) λq=>cg ((vU q).map (·.1))) st=some r->C):C:=by
 cases hi:dZ xs with
 |some is=>
  have h:vT xs st=some r:=by unfold vV at h;rw[hi]at h;exact h
  unfold vT at h;rw[hi]at h;exact k1 is hi (if_some h).1 (if_some h).2
 |none=>unfold vV at h;rw[hi]at h;exact k2 (if_some h).1 (if_some h).2
def XW(O:Ok F)(S:ar F μ st s)(R:cy A 1)(x:VR μ.ρ st.length s.heap a u)(h:(bd (getL a) λp=>vV p.2) st=some (v,U))(P:aR F μ st s U v Q):aq F.m A (call (.builtin "sorted") [u]) Q E s:=by
 refine bc h λp au h1 h2=> ?_;obtain⟨e,h3,e1⟩:=getL_some h1;subst e1;rw[x.pL e];exact XU h2 (λis hi lX h=>Uq S h3 hi lX h P) λlX h=>bc h λq aH h4 h5=>WT O S R h3 h4 lX h5 P
def XX(O:Ok F)(S:ar F μ st s)(R:cy A 1)(x:VR μ.ρ st.length s.heap a u)(h:Ij a st=some (v,U))(P:aR F μ st s U v Q):aq F.m A (call (.type "tuple") [u]) Q E s:=by
 cases x with
 |tup ht hs=>exact Ue S (.tup ht hs) (P.rt h)
 |ab hl=>
  refine bc h λp au h1 h2=> ?_;obtain⟨e,h3,e1⟩:=getL_some h1;injection e with e
  subst e;exact Ud S h3 (show aR F μ st s st _ _ from e1▸P.rt h2)
 |none=>exact noNS h
 |bool _=>exact noNS h
 |int _ _=>exact noNS h
 |str _ _=>exact noNS h
 |cY _ _=>exact noNS h
def XY(O:Ok F)(S:ar F μ st s)(R:cy A 1)(x:VR μ.ρ st.length s.heap a u)(h:(bd (qK a) λl=>bd (dQ l) CB) st=some (v,U))(P:aR F μ st s U v Q):aq F.m A (call (.type "dict") [u]) Q E s:=by
 refine RD h λl el h=>bc h λo au h1 h2=> ?_;obtain⟨h3,e⟩:=getO_some h1;subst e;rw[x.pL el];cases o with
 |list xs=>exact ub h2 λps hp h=>V8 O S R h3 hp h P
 |dict kvs ep=>
  clear h;obtain⟨e1,e2⟩:=newO_some (if_some h2).2;clear h;subst e1;subst e2;exact Ut O S h3 (if_some h2).1 P
 |inst _ _=>exact noNS h2
def XZ(O:Ok F)(S:ar F μ st s)(R:cy A 1)(x:VR μ.ρ st.length s.heap a u)(h:(bd (cR a) λi=>rt (.int i)) st=some (v,U))(P:aR F μ st s U v Q):aq F.m A (call (.type "int") [u]) Q E s:=by
 refine kX h λi ea h=> ?_;obtain⟨t,rfl⟩:=x.int_inv ea;exact Ug S (P.rt h)
def X0(O:Ok F)(S:ar F μ st s)(R:cy A 1)(x:VR μ.ρ st.length s.heap a u)(h:(bd (getL a) λp=>bd (op (dZ p.2)) λis=>rt (.int is.sum)) st=some (v,U))(P:aR F μ st s U v Q):aq F.m A (call (.builtin "sum") [u]) Q E s:=by
 refine bc h λp au h1 h2=> ?_;obtain⟨e,h3,e1⟩:=getL_some h1;subst e1;rw[x.pL e];exact ub h2 λis hi h=>Uo S (R.mono (dJ _)) h3 hi (P.rt h)
def X1(O:Ok F)(S:ar F μ st s)(R:cy A 1)(x:VR μ.ρ st.length s.heap a u)(h:(bd (cR a) λi=>if 0<=i/\i<=bH then rt (.cY i.toNat)else er) st=some (v,U))(P:aR F μ st s U v Q):aq F.m A (call (.type "range") [u]) Q E s:=by
 refine kX h λi ea h=> ?_;obtain⟨t,rfl⟩:=x.int_inv ea;exact Uh S (if_some h).1.1 (if_some h).1.2 (P.rt (if_some h).2)
def K4{f:Int->Int->Int}{r:V×ah}(h:two f as st=some r)(hv:aJ ρ N hp as us)(k:∀i j t t',us=[.int i t,.int j t']->rt (.int (f i j)) st=some r->C):C:=by
 cases hv with
 |nil=>exact noNS h
 |cons x y=>
  refine me h y λb u e z h=>kX h λi ea h=>kX h λj eb h=> ?_;subst e;obtain⟨t,rfl⟩:=x.int_inv ea;obtain⟨t',rfl⟩:=z.int_inv eb;exact k i j t t' rfl h
def X2(O:Ok F)(S:ar F μ st s)(R:cy A 1)(hv:aJ μ.ρ st.length s.heap as us)(h:fC b as st=some (v,U))(P:aR F μ st s U v Q):
 aq F.m A (call (ro b) us) Q E s:=by
 cases b with
 |len=>exact me h hv λa u e x h=>by rw[e];exact XR O S R x h P
 |list=>exact me h hv λa u e x h=>by rw[e];exact XT O S R x h P
 |sorted=>exact me h hv λa u e x h=>by rw[e];exact XW O S R x h P
 |tuple=>exact me h hv λa u e x h=>by rw[e];exact XX O S R x h P
 |dict=>exact me h hv λa u e x h=>by rw[e];exact XY O S R x h P
 |int=>exact me h hv λa u e x h=>by rw[e];exact XZ O S R x h P
 |sum=>exact me h hv λa u e x h=>by rw[e];exact X0 O S R x h P
 |range=>exact me h hv λa u e x h=>by rw[e];exact X1 O S R x h P
 |min=>exact K4 h hv λi j t t' e h=>by rw[e];exact Uj S (R.mono (dJ _)) (P.rt h)
 |max=>exact K4 h hv λi j t t' e h=>by rw[e];exact Uk S (R.mono (dJ _)) (P.rt h)
 |_=>exact noNS h
def Eu{M:Model}:∀h:Heap,F.K.In h->∃k,(k=DL\/k=DM\/k=DN)/\Looks M h (keeperOf (ro b)) k:=JQ (by cases b<;>rfl)
end
end
variable{o:CmpOp}{nm:Str}{aQ:ah}{fp:Pos}
section
variable{as vs:List V}{us:List ai}{Q':ai×List ai->ao->Prop}
section
variable{st:ah}{I:aT}{aa:aO}
def K5{k:MK}(h:fU v nm st=some (k,U))(kl:∀l xs,v= .ab l->st=U->st[l]? =some (.list xs)->k= .list->(isName "append" nm||isName "extend" nm||isName "pop" nm||isName "count" nm)=true->C)
 (kd:∀l kvs ep,v= .ab l->st=U->st[l]? =some (.dict kvs ep)->k= .dict->isName "get" nm=true->C) (ki:∀l c fs,v= .ab l->st=U->st[l]? =some (.inst c fs)->k= .inst c->eV fs nm=none->C):C:=by
 cases v with
 |ab l=>
  refine bc h λo au h1 h2=> ?_;obtain⟨h3,e⟩:=getO_some h1;cases o with
  |list xs=>exact(rt_some (if_some h2).2).elim λe1 e2=>kl l xs rfl (e.trans e2) h3 e1.symm (if_some h2).1
  |dict kvs ep=>exact(rt_some (if_some h2).2).elim λe1 e2=>kd l kvs ep rfl (e.trans e2) h3 e1.symm (if_some h2).1
  |inst c fs=>exact(rt_some (if_some h2).2).elim λe1 e2=>ki l c fs rfl (e.trans e2) h3 e1.symm (X3.mp (if_some h2).1)
 |none=>exact noNS h
 |bool _=>exact noNS h
 |int _=>exact noNS h
 |str _=>exact noNS h
 |cY _=>exact noNS h
 |tup _=>exact noNS h
def aR.unit(P:aR F μ st s U .none Q):gu F μ st s U (Q .none):=λaI s' S' T'=>P aI s' .none S' T' .none
def X4(O:Ok F)(S:ar F μ st s)(R:cy A 1){xs:List V}(h0:st[l]? =some (.list xs))(hv:aJ μ.ρ st.length s.heap as us)(h:(bd (one as) λv=>bd (gE l (xs++[v])) λY=>rt .none) st=some (v,U))(P:aR F μ st s U v Q):aq F.m A (call (.builtin "list.append") (.ref (μ.ρ l)::us)) Q E s:=by refine me h hv λa u e x h=>bc h λY au h1 h2=> ?_;rw[e];exact TF S h0 h1 x (aR.unit (P.rt h2))
def X5(O:Ok F)(S:ar F μ st s)(R:cy A 1){xs:List V}(h0:st[l]? =some (.list xs))(hv:aJ μ.ρ st.length s.heap as us)(h:(bd (one as) λv=>bd (getL v) λp=>if¬p.1=l then bd (gE l (xs++p.2)) λY=>rt .none else er) st=some (v,U))(P:aR F μ st s U v Q):aq F.m A (call (.builtin "list.extend") (.ref (μ.ρ l)::us)) Q E s:=by
 refine me h hv λa u e x h=>bc h λp au h1 h2=>bc (if_some h2).2 λY aH h4 h5=> ?_;clear h2;obtain⟨ea,h3,e1⟩:=getL_some h1;subst e1;rw[e,x.pL ea];exact TL S h0 h3 h4 (aR.unit (P.rt h5))
def X6(O:Ok F)(S:ar F μ st s)(R:cy A 1){xs:List V}(h0:st[l]? =some (.list xs))(hv:aJ μ.ρ st.length s.heap as us)(h:(CD l xs as) st=some (v,U))(P:aR F μ st s U v Q):aq F.m A (call (.builtin "list.pop") (.ref (μ.ρ l)::us)) Q E s:=by
 cases hv with
 |nil=>exact ub h λw hg h=>bc h λY au h1 h2=>TN S h0 hg h1 (P.rt h2)
 |cons _ _=>exact noNS h
def X7(O:Ok F)(S:ar F μ st s)(R:cy A 1){xs:List V}(h0:st[l]? =some (.list xs))(hv:aJ μ.ρ st.length s.heap as us)(h:(bd (one as) λv=>bd (cR v) λi=>bd (op (dZ xs)) λis=>rt (.int (is.count i))) st=some (v,U))(P:aR F μ st s U v Q):aq F.m A (call (.builtin "list.count") (.ref (μ.ρ l)::us)) Q E s:=by
 refine me h hv λa u e x h=>kX h λi ea h=>ub h λis hi h=> ?_;rw[e];clear e;obtain⟨t,rfl⟩:=x.int_inv ea;exact TQ S h0 hi (P.rt h)
def X8{xs:List V}{Z:Str->M V->Prop}(k1:Z (aM "append") (bd (one as) λv=>bd (gE l (xs++[v])) λY=>rt .none))
 (k2:Z (aM "extend") (bd (one as) λv=>bd (getL v) λp=>if¬p.1=l then bd (gE l (xs++p.2)) λY=>rt .none else er)) (k3:Z (aM "pop") (CD l xs as))
 (k4:Z (aM "count") (bd (one as) λv=>bd (cR v) λi=>bd (op (dZ xs)) λis=>rt (.int (is.count i)))) (hn:(isName "append" nm||isName "extend" nm||isName "pop" nm||isName "count" nm)=true):Z nm (vW l xs nm as):=by
 rw[wC,wC,wC]at hn;rcases hn with((q|q)|q)|q<;>(have e:=oi q;subst e)
 .exact k1
 .exact k2
 .exact k3
 .exact k4
def X9(O:Ok F)(S:ar F μ st s){kvs:List (V×V)}(R:cy A 1)(h0:st[l]? =some (.dict kvs ep))(hv:aJ μ.ρ st.length s.heap as us)
 (h:CE kvs (aM "get") as st=some (v,U)) (P:aR F μ st s U v Q):
 aq F.m A (call (.builtin "dict.get") (.ref (μ.ρ l)::us)) Q E s:=by
 unfold CE at h;rw[if_pos (by decide+kernel)]at h;cases hv with
 |nil=>exact noNS h
 |cons x y=>
  cases y with
  |nil=>exact Tr O S R h0 (if_some h).1 x (P.rt (if_some h).2)
  |cons y z=>
   refine zd h λd e h=> ?_;injection e with e1 e2
   subst e2;cases z;exact Tu O S R h0 (if_some h).1 x y (P.rt (if_some h).2)
def X'{k:MK}(h:fU v nm st=some (k,U)):st=U:=K5 h (λY Y Y e Y Y Y=>e) (λY Y Y Y e Y Y Y=>e) λY Y Y Y e Y Y Y=>e
abbrev w8(F:Fix)(A:bB)(E:ai->ao->Prop)(μ:Mp)(st:ah)(s:ao)(aQ:ah)(vs:List V)(Q:ai->ao->Prop)(Q':ai×List ai->ao->Prop):Prop:=∀f g,(∀(h:Heap),F.K.In h->∃k,(k=DL\/k=DM\/k=DN)/\Looks F.m h (keeperOf f) k)->(zZ F μ st s aQ vs λus s'=>aq F.m A (call f (g::us)) Q E s')->Q' (f,[g]) s
def w9(fin:w8 F A E μ st s U vs Q Q')(hl:l<st.length){id:String}
 (k:∀bI s2 us,ar F bI U s2->Step cq μ st.length s.heap bI U.length s2.heap->aJ bI.ρ U.length s2.heap vs us->aq F.m A (call (.builtin id) (.ref (bI.ρ l)::us)) Q E s2):Q' (.builtin id,[.ref (μ.ρ l)]) s:=fin _ _ (JQ rfl) λbI s2 us S2 T2 y=>by rw[<-T2.ρ l hl];exact k bI s2 us S2 T2 y
def Ya(c:Ctx F mg mb I n A aa pe)(S:ar F μ st s){xs:List V}
 (h0:st[l]? =some (.list xs)) (hn:(isName "append" nm||isName "extend" nm||isName "pop" nm||isName "count" nm)=true) (h6:eC I .list (.ab l) nm vs aQ=some (v,U)) (P:aR F μ st s U v Q) (fin:w8 F A E μ st s aQ vs Q Q'):
 aq F.m A (getMethod (.ref (μ.ρ l)) nm pl) Q' E s:=by
 have hl:=(b9.mp h0).1;refine bc h6 λp b6 h7 h8=> ?_;clear h6;obtain⟨e7,h9,e8⟩:=getL_some h7;injection e7 with e7
 subst e8;subst e7;exact X8 (Z:=λnm m=>m aQ=some (v,U)->aq F.m A (getMethod (.ref (μ.ρ p.1)) nm pl) Q' E s)
  (λh=>zI S Jt PySem.F.type_list_append h0 (w9 fin hl λbI s2 us S2 T2 y=>X4 c.O S2 c.R1 h9 y h (P.after T2)))
  (λh=>zI S TM PySem.F.type_list_extend h0 (w9 fin hl λbI s2 us S2 T2 y=>X5 c.O S2 c.R1 h9 y h (P.after T2)))
  (λh=>zI S TP PySem.F.type_list_pop h0 (w9 fin hl λbI s2 us S2 T2 y=>X6 c.O S2 c.R1 h9 y h (P.after T2)))
  (λh=>zI S PySem.F.slot_list_count PySem.F.type_list_count h0 (w9 fin hl λbI s2 us S2 T2 y=>X7 c.O S2 c.R1 h9 y h (P.after T2))) hn h8
def Yb(c:Ctx F mg mb I n A aa pe)(S:ar F μ st s){kvs:List (V×V)}
 (h0:st[l]? =some (.dict kvs ep)) (hn:isName "get" nm=true) (h6:eC I .dict (.ab l) nm vs aQ=some (v,U)) (P:aR F μ st s U v Q) (fin:w8 F A E μ st s aQ vs Q Q'):
 aq F.m A (getMethod (.ref (μ.ρ l)) nm pl) Q' E s:=by
 refine bc h6 λp b6 h7 h8=> ?_;clear h6;obtain⟨e7,h9,e8⟩:=getD_some h7;injection e7 with e7
 have e9:=oi hn;subst e8;subst e7;subst e9;exact TR S Js PySem.F.type_dict_get h0 (w9 fin ((b9.mp h0).1) λbI s2 us S2 T2 y=>X9 c.O S2 c.R1 h9 y h8 (P.after T2))
def Yc(c:Ctx F mg mb I n A aa pe)(S:ar F μ st s){cl:Str}{fs:List (Str×V)}
 (h0:st[l]? =some (.inst cl fs)) (hn:eV fs nm=none) (h6:eC I (.inst cl) (.ab l) nm vs aQ=some (v,U)) (P:aR F μ st s U v Q) (fin:w8 F A E μ st s aQ vs Q Q'):
 aq F.m A (getMethod (.ref (μ.ρ l)) nm pl) Q' E s:=by
 have h7:=h6;obtain⟨AF,gI⟩:=c.hI.call _ _ _ _ h7;obtain⟨es,kk,Iat,g,r,nd,hc⟩:=zC S h0;have K:=c.G.fn _ _ gI;exact TS c.O S h0 hn (c.G.DB cl nm AF hc gI) K.typ (fin _ _ (keeps_K K.keep) λbI s2 us S2 T2 y=>wpAny_call (c.hC c.R0 S2 (.cons (T2.VR (.ab ((b9.mp h0).1))) y) h7 (P.after T2)))
def Yd(c:Ctx F mg mb I n A aa pe)(S:ar F μ st s){a:V}{k:MK}
 (x:VR μ.ρ st.length s.heap a u) (h3:fU a nm st=some (k,st)) (h6:eC I k a nm vs aQ=some (v,U)) (P:aR F μ st s U v Q) (fin:w8 F A E μ st s aQ vs Q Q'):
 aq F.m A (getMethod u nm pl) Q' E s:=by
 refine K5 h3 (λl xs e1 Y h0 e2 hn=> ?_) (λl kvs ep e1 Y h0 e2 hn=> ?_) λl cl fs e1 Y h0 e2 hn=> ?_<;>(rw[x.pL e1];rw[e1,e2]at h6)
 .exact Ya c S h0 hn h6 P fin
 .exact Yb c S h0 hn h6 P fin
 .exact Yc c S h0 hn h6 P fin
def Ye(c:Ctx F mg mb I n A aa pe)(S:ar F μ st s)(fd:bh F μ st.length s.heap aa pe){o:Expr}{apos pos:Pos}{as:List Expr}{Q:ai->ao->Prop}(ju:vX o as apos pos=true)
 (h:(bd (I.ev aa o) λov=>bd (fU ov nm) λk=>bd (dy I aa as) λvs=>eC I k ov nm vs) st=some (v,U)) (P:aR F μ st s U v Q):
 aq F.m A (eval (.Call (.Attribute o nm apos) as [] pos) pe) Q E s:=by
 unfold vX at ju;rw[eO,eO]at ju;obtain⟨⟨hb,Yf⟩,hlen⟩:=ju;refine bc h λa au h1 h2=>bc h2 λk aH h3 h4=>bc h4 λvs aQ h5 h6=> ?_;clear h h2 h4;rw[arm_eval_Call,JT hb];refine wB (c.ev S fd h1 λbj s1 u S1 T1 bN x=>wB (mW ?_));obtain rfl:=X' h3;have Yg:methodCallForm (as.length+([]:List Keyword).length) (backTo pos (starEach as pe)) (backToKw pos (keywordEach [] pe))=true:=by
  have DK:=(z8 (pos:=pos) (E:=E) c.hI.star c.hE c.R0 c.fs (Q:=λY Y=>True) S1 bN h5 λY Y Y Y Y Y=>trivial).2;unfold methodCallForm;rw[eO,eO];refine⟨⟨?_,rfl⟩, ?_⟩
  .rw[fE];intro p hp;rw[K6]at DK;simpa using DK p hp
  .exact decide_eq_true (a9 (.add (.add (.add af iN) iN) aX) nR [.l az (.num 25)] rfl (Nat.blt_eq.mp hlen))
 unfold methodCall;rw[Yg];refine wB (dD ?_);exact Yd c S1 x h3 h6 (P.after T1) λf g hk hP=>wB (wpAny_of_eq (by unfold methodCallPos;simp[Yf]) (uD c.hI.star c.hE c.R0 S1 c.fs bN h5 hk c.O hP))
def Yh{Z:M V->Prop}(k1:∀b,gF f=some b->Z (fC b vs))(k2:gF f=none->dR f P.classes=true->Z (callC I f vs))(k3:gF f=none->dR f P.classes=false->Z (I.call (aM "",f) vs)):Z (kJ P I f vs):=by
 unfold kJ;cases hb:gF f with
 |some b=>exact k1 b hb
 |none=>
  cases hc:dR f P.classes with
  |true=>exact k2 hb hc
  |false=>exact k3 hb hc
def Yi(c:Ctx F mg mb I n A aa pe)(S:ar F μ st s)(fd:bh F μ st.length s.heap aa pe){as:List Expr}(hk:kind aa f=some .globalImplicit)
 (h1:dy I aa as st=some (vs,au)) (hb:gF f=none) (hc:dR f F.P.classes=true) (h2:callC I f vs au=some (v,U)) (P:aR F μ st s U v Q) (hd:(f==("__debug__":Str))=false):aq F.m A (eval (.Call (.Name f fp) as [] pos) pe) Q E s:=by
 refine bc h2 λx aH h3 h4=>bc h4 λr aQ h5 h6=> ?_;obtain⟨e0,h7⟩:=if_some h6;have e1:r= .none:=by cases r<;>first|rfl|exact cu e0
 subst e1;obtain⟨hg,hm,uS⟩:=c.G.cls f hc;obtain⟨AF,gI⟩:=c.hI.call _ _ _ _ h5;exact Call_Name rfl (wpAny_Name (DC c.G S c.fs hk hg (uD c.hI.star c.hE c.R0 S c.fs fd h1 (keeps_K uS) c.O λbj s1 us S1 T1 y=>Vb c.O c.G c.hC c.R S1 hc y gI h3 h5 ((P.rt h7).after T1))) hd)
def Yj(c:Ctx F mg mb I n A aa pe)(S:ar F μ st s)(fd:bh F μ st.length s.heap aa pe){as:List Expr}(hk:kind aa f=some .globalImplicit)
 (h1:dy I aa as st=some (vs,au)) (hb:gF f=none) (hc:dR f F.P.classes=false) (h2:I.call (aM "",f) vs au=some (v,U)) (P:aR F μ st s U v Q) (hd:(f==("__debug__":Str))=false):aq F.m A (eval (.Call (.Name f fp) as [] pos) pe) Q E s:=by
 obtain⟨AF,gI⟩:=c.hI.call _ _ _ _ h2;exact Call_Name rfl (wpAny_Name (DC c.G S c.fs hk (c.G.func f AF gI) (uD c.hI.star c.hE c.R0 S c.fs fd h1 (keeps_K (c.G.fn _ _ gI).keep) c.O λbj s1 us S1 T1 y=>wpAny_call (c.hC c.R0 S1 y h2 (P.after T1)))) hd)
def Yk(c:Ctx F mg mb I n A aa pe)(S:ar F μ st s)(fd:bh F μ st.length s.heap aa pe){as:List Expr}(hk:kind aa f=some .globalImplicit)
 (h:(bd (dy I aa as) λvs=>kJ F.P I f vs) st=some (v,U)) (P:aR F μ st s U v Q) (hd:(f==("__debug__":Str))=false):aq F.m A (eval (.Call (.Name f fp) as [] pos) pe) Q E s:=by
 exact bc h λvs au h1 h2=>Yh (Z:=λm=>m au=some (v,U)->aq F.m A (eval (.Call (.Name f fp) as [] pos) pe) Q E s)
  (λb hb h2=>Call_Name rfl (wpAny_Name (zN c.G S c.fs hk hb (uD c.hI.star c.hE c.R0 S c.fs fd h1 Eu c.O λbj s1 us S1 T1 x=>X2 c.O S1 c.R1 x h2 (P.after T1))) hd))
  (λhb hc h2=>Yi c S fd hk h1 hb hc h2 P hd) (λhb hc h2=>Yj c S fd hk h1 hb hc h2 P hd) h2
end
end
variable{t:Addr}{gp:Pos}
section
variable{bs vs:List Expr}{ks:List (Option Expr)}
section
variable{st:ah}{I:aT}{aa:aO}
def Yl{M:Model}{f:ai}{x:Sem ai}(hk:keeperOf f=pure .machine)(h:aq F.m A x (λv s1=>aq F.m A (call f [v]) Q E s1) E s):
 aq F.m A (callWith pos f [] [(false,x)] []) Q E s:=by
 refine callWith_of (P:=λY=>True) rfl (λY Y=>⟨.machine,.inr (.inl rfl),U9 hk⟩) (U8 (U5 (wpAny_mono h (λv s1 h1=> ?_) λY Y x=>x)));exact aF ⟨trivial,h1⟩
def Ym(h:isName "__debug__" f=false):(f==("__debug__":Str))=false:=beq_eq_false_iff_ne.mpr (zO h)
def K7(c:Ctx F mg mb I n A aa pe)(S:ar F μ st s)(fd:bh F μ st.length s.heap aa pe){b1 b2:BI}{ip:Pos}{vs:List V}(hf:kind aa f=some .globalImplicit)(hg:kind aa g=some .globalImplicit)
 (bf:gF f=some b1) (bg:gF g=some b2) (df:(f==("__debug__":Str))=false) (dg:(g==("__debug__":Str))=false) (h:dy I aa bs st=some (vs,U))
 (P:zZ F μ st s U vs λus s'=>aq F.m A (call (ro b2) us) (λz xa=>aq F.m A (call (ro b1) [z]) Q E xa) E s'):
 aq F.m A (eval (.Call (.Name f fp) [.Call (.Name g gp) bs [] ip] [] pos) pe) Q E s:=by
 refine Call_Name rfl (wpAny_Name (zN c.G S c.fs hf bf ?_) df);refine Yl (M:=model F.prog F.w) (by cases b1<;>rfl) ?_;refine Call_Name rfl (wpAny_Name (zN c.G S c.fs hg bg ?_) dg);exact uD c.hI.star c.hE c.R0 S c.fs fd h Eu c.O P
def Yn(h:isName "list" f=true):gF f=some .list:=by have:=oi h;subst this;kernel_rfl
def Yo(h:isName "zip" f=true):gF f=some .zip:=by have:=oi h;subst this;kernel_rfl
def Yp(h:isName "sorted" f=true):gF f=some .sorted:=by have:=oi h;subst this;kernel_rfl
def Yq(h:isName "set" f=true):gF f=some .set:=by have:=oi h;subst this;kernel_rfl
def Yr(h:isName "enumerate" f=true):gF f=some .enumerate:=by have:=oi h;subst this;kernel_rfl
def Ys(h:isName "zip" f=true):(f==("__debug__":Str))=false:=by have:=oi h;subst this;decide+kernel
def Yt(h:isName "set" f=true):(f==("__debug__":Str))=false:=by have:=oi h;subst this;decide+kernel
def Yu(h:isName "enumerate" f=true):(f==("__debug__":Str))=false:=by have:=oi h;subst this;decide+kernel
def AG(h:(kind aa f==some NameKind.globalImplicit)=true):kind aa f=some .globalImplicit:=by
 cases q:kind aa f with
 |none=>rw[q]at h;cases h
 |some k=>rw[q]at h;cases k<;>first|rfl|cases h
private def Yv{Z:List Expr->vY->Prop}(kp:∀{as},Z as .plain)(kz:∀g gp bs ip,isName "list" f=true->isName "zip" g=true->kind aa g=some .globalImplicit->Z [.Call (.Name g gp) bs [] ip] (.zip bs))
 (ks:∀g gp bs ip,isName "sorted" f=true->isName "set" g=true->kind aa g=some .globalImplicit->Z [.Call (.Name g gp) bs [] ip] (.set bs)):∀as,Z as (tZ aa f as):=by
 have key:∀g gp bs ip,Z [.Call (.Name g gp) bs [] ip] (nZ aa f g bs):=λg gp bs ip=>by
  unfold nZ;cases hz:(isName "list" f && isName "zip" g && kind aa g==some .globalImplicit)with
  |true=>rw[eO,eO]at hz;exact kz _ _ _ _ hz.1.1 hz.1.2 (AG hz.2)
  |false=>
   cases hs:(isName "sorted" f && isName "set" g && kind aa g==some .globalImplicit)with
   |true=>rw[eO,eO]at hs;exact ks _ _ _ _ hs.1.1 hs.1.2 (AG hs.2)
   |false=>exact kp
 intro as
 match as with
 |[]=>exact kp
 |[e]=>
  cases e
  case Call g bs ks q=>
   cases g
   case Name=>cases ks<;>first|exact key .. |exact kp
   all_goals exact kp
  all_goals exact kp
 |e::_::_=>exact kp
def Yw(c:Ctx F mg mb I n A aa pe)(S:ar F μ st s)(fd:bh F μ st.length s.heap aa pe){ip:Pos}(hk:kind aa f=some .globalImplicit)(hd:(f==("__debug__":Str))=false)
 (z1:isName "list" f=true) (z2:isName "zip" g=true) (z3:kind aa g=some .globalImplicit) (h:CF I aa bs st=some (v,U)) (P:aR F μ st s U v Q):aq F.m A (eval (.Call (.Name f fp) [.Call (.Name g gp) bs [] ip] [] pos) pe) Q E s:=by
 rcases bs with _|⟨x,_|⟨y,_|⟨z,r⟩⟩⟩
 .exact noNS h
 .exact noNS h
 .refine bc h λa au h1 h2=>bc h2 λb aH h3 h4=>ze h4 λxs e1 h=>ze h λys e2 h=>zd h λa1 e3 h=>zd h λb1 e4 h=> ?_;clear h2 h4;subst e3;subst e4;subst e1;subst e2;have xb:dy I aa [x,y] st=some ([.tup [a1],.tup [b1]],aH):=by
   simp only[dy,bd,h1,h3,rt]
  refine K7 c S fd hk z3 (Yn z1) (Yo z2) hd (Ys z2) xb λbI s2 us S2 T2 y=> ?_;obtain⟨u,w,rfl,xu,xw⟩:=y.two;exact Wy c.O S2 c.R1 xu xw h (P.after T2)
 .exact noNS h
def Yx(c:Ctx F mg mb I n A aa pe)(S:ar F μ st s)(fd:bh F μ st.length s.heap aa pe){ip:Pos}(hk:kind aa f=some .globalImplicit)(hd:(f==("__debug__":Str))=false)
 (z1:isName "sorted" f=true) (z2:isName "set" g=true) (z3:kind aa g=some .globalImplicit) (h:CG I aa bs st=some (v,U)) (P:aR F μ st s U v Q):aq F.m A (eval (.Call (.Name f fp) [.Call (.Name g gp) bs [] ip] [] pos) pe) Q E s:=by
 refine bc h λx dh h0 h=>bc h λa au h1 h2=>bc h2 λp aH h3 h4=>ub h4 λis hi h=> ?_;clear h2 h4;obtain⟨e1,e2⟩:=one1_some h0;subst e1;subst e2;obtain⟨rfl,hl,rfl⟩:=getL_some h3;have xb:dy I aa [x] st=some ([.ab p.1],au):=by simp only[dy,bd,h1,rt]
 refine K7 c S fd hk z3 (Yp z1) (Yq z2) hd (Yt z2) xb λbI s2 us S2 T2 y=> ?_;obtain⟨u,rfl,xu⟩:=y.one;rw[xu.pL rfl];exact XO c.O S2 c.R1 hl hi (if_some h).1 (if_some h).2 (P.after T2)
def Yy(c:Ctx F mg mb I n A aa pe)(S:ar F μ st s)(fd:bh F μ st.length s.heap aa pe){f:Str}{as:List Expr}
 (h:lK F.P I aa (.Call (.Name f fp) as [] pos) st=some (v,U)) (P:aR F μ st s U v Q):aq F.m A (eval (.Call (.Name f fp) as [] pos) pe) Q E s:=by
 have h:=if_some (show(if(kind aa f==some .globalImplicit && !isName "__debug__" f)=true then kK F.P I aa f as else er) st=some (v,U)from h);have hk:=h.1;rw[eO,uT]at hk;have we:=AG hk.1;have hd:=Ym hk.2;exact Yv (aa:=aa) (f:=f) (Z:=λas m=>(match m with|.zip bs=>CF I aa bs|.set bs=>CG I aa bs|.plain=>bd (dy I aa as) λvs=>kJ F.P I f vs) st=some (v,U)->aq F.m A (eval (.Call (.Name f fp) as [] pos) pe) Q E s)
  (λh=>Yk c S fd we h P hd) (λY Y Y Y z1 z2 z3 h=>Yw c S fd we hd z1 z2 z3 h P) (λY Y Y Y z1 z2 z3 h=>Yx c S fd we hd z1 z2 z3 h P) as h.2
def K8{Z:List (Option Expr)->List Expr->List (V×V)->ah->Prop}(nil:Z [] [] [] U)(cons:∀k ks v vs st a au b aH r,I.ev aa k st=some (a,au)->I.ev aa v au=some (b,aH)->lH I aa ks vs aH=some (r,U)->Z ks vs r aH->Z (some k::ks) (v::vs) ((a,b)::r) st)
 :∀{vs:List Expr} {st:ah} {kvs:List (V×V)},lH I aa ks vs st=some (kvs,U)->Z ks vs kvs st:=by
 induction ks with
 |nil=>
  intro vs st kvs h;cases vs with
  |nil=>obtain⟨e,e'⟩:=rt_some h;subst e;subst e';exact nil
  |cons=>exact noNS h
 |cons k ks ih=>
  intro vs st kvs h;cases k with
  |none=>exact noNS h
  |some k=>
   cases vs with
   |nil=>exact noNS h
   |cons v vs=>exact bc h λa au h1 h2=>bc h2 λb aH h3 h4=>bc h4 λr aQ h5 h6=>(rt_some h6).1▸cons k ks v vs st a au b aH r h1 h3 ((rt_some h6).2▸h5) (ih ((rt_some h6).2▸h5))
def Yz{kvs:List (V×V)}(h:lH I aa ks vs st=some (kvs,U)):ks.all (·.isSome)=true/\ks.length=vs.length:=K8 (Z:=λks vs Y Y=>ks.all (·.isSome)=true/\ks.length=vs.length) ⟨rfl,rfl⟩ (λk ks v vs st a au b aH r Y Y Y i=>⟨by rw[wa,i.1];rfl,congrArg n8 i.2⟩) h
def YA(c:Ctx F mg mb I n A aa pe){kvs:List (V×V)}(h:lH I aa ks vs st=some (kvs,U)):∀{μ:Mp} {s:ao} {Q:List (ai×ai)->ao->Prop},ar F μ st s->bh F μ st.length s.heap aa pe->(∀aI s' ws,ar F aI U s'->Step cq μ st.length s.heap aI U.length s'.heap->ws.length=kvs.length->(∀(j:Nat) p q,kvs[j]? =some p->ws[j]? =some q->VR aI.ρ U.length s'.heap p.1 q.1/\VR aI.ρ U.length s'.heap p.2 q.2)->Q ws s')->aq F.m A (evalPairs (pairTrees ks vs pe pos)) Q E s:=by
 refine K8 (Z:=λks vs kvs st=>∀{μ:Mp} {s:ao} {Q:List (ai×ai)->ao->Prop},ar F μ st s->bh F μ st.length s.heap aa pe->(∀aI s' ws,ar F aI U s'->Step cq μ st.length s.heap aI U.length s'.heap->ws.length=kvs.length->(∀(j:Nat) p q,kvs[j]? =some p->ws[j]? =some q->VR aI.ρ U.length s'.heap p.1 q.1/\VR aI.ρ U.length s'.heap p.2 q.2)->Q ws s')->aq F.m A (evalPairs (pairTrees ks vs pe pos)) Q E s) ?_ ?_ h
 .intro μ s Q S fd P;exact aF (P μ s [] S (Step.refl ..) rfl λj p q e=>nomatch e)
 .intro k ks v vs st a au b aH r h1 h3 _ ih μ s Q S fd P;refine pairTrees_cons_walk (c.ev S fd h1 λbj s1 u S1 T1 bN x=>c.ev S1 bN h3 λbI s2 w S2 T2 cP y=>ih S2 cP λgy s3 ws S3 T3 hl hv=> ?_);refine P gy s3 _ S3 ((T1.trans T2).trans T3) (congrArg n8 hl) λj p q hp hq=> ?_;cases j with
  |zero=>rw[<-bF hp,<-bF hq];exact⟨T3.VR (T2.VR x),T3.VR y⟩
  |succ j=>exact hv j p q hp hq
def ar.newDict(S:ar F μ st s){t:Nat}:ar F (μ.put st.length s.heap.objs.size s.heap.objs.size) (st++[.dict [] (some 0)]) {s with heap:=s.heap.push {cls:=.type "dict",data:=.dict #[]},toks:=t}/\Step cq μ st.length s.heap (μ.put st.length s.heap.objs.size s.heap.objs.size) (st++[O.dict [] (some 0)]).length (s.heap.push {cls:=.type "dict",data:=.dict #[]})/\VR (μ.put st.length s.heap.objs.size s.heap.objs.size).ρ (st++[O.dict [] (some 0)]).length (s.heap.push {cls:=.type "dict",data:=.dict #[]}) (.ab st.length) (.ref s.heap.objs.size):=by
 have k:∀b o',s.heap.get? b=some o'->(s.heap.push {cls:=.type "dict",data:=.dict #[]}).get? b=some o':=λb o' e=>cS _ e;obtain⟨S',T'⟩:=S.alloc (s':={s with heap:=s.heap.push {cls:=.type "dict",data:=.dict #[]},toks:=t}) (r:=s.heap.objs.size) (a:=s.heap.objs.size) (o:=.dict [] (some 0)) k rfl rfl (pE _)
  ⟨if_pos rfl,[],0,dX _ rfl,.nil,trivial,dJ _,λe q=>by cases q;rfl⟩
 refine⟨S',T', ?_⟩;have:VR (μ.put st.length s.heap.objs.size s.heap.objs.size).ρ (st++[O.dict [] (some 0)]).length (s.heap.push {cls:=.type "dict",data:=.dict #[]}) (.ab st.length) (.ref ((μ.put st.length s.heap.objs.size s.heap.objs.size).ρ st.length)):=.ab (by simp);simpa[Mp.put]using this
def YB(c:Ctx F mg mb I n A aa pe)(S:ar F μ st s)(fd:bh F μ st.length s.heap aa pe)(hlen:ks.length<=15)
 (h:(bd (je (.dict [] (some 0))) λd=>bd (lH I aa ks vs) λkvs=>bd (jf d kvs) λY=>rt d) st=some (v,U)) (P:aR F μ st s U v Q):aq F.m A (eval (.Dict ks vs pos) pe) Q E s:=by
 obtain⟨d,au,h1,h2⟩:=bd_some h;obtain⟨rfl,rfl⟩:=newO_some h1;obtain⟨kvs,aH,h3,h4⟩:=bd_some h2;obtain⟨_,aQ,h5,h6⟩:=bd_some h4;obtain⟨rfl,rfl⟩:=rt_some h6;obtain⟨ek,hl⟩:=Yz h3;obtain⟨S1,T1,x1⟩:=S.newDict (t:=s.toks);cases ks with
 |nil=>
  cases vs with
  |cons _ _=>simp at hl
  |nil=>
   obtain⟨rfl,rfl⟩:=rt_some h3;obtain⟨_,rfl⟩:=rt_some h5;exact wpAny_Dict_empty (P _ _ _ S1 T1 x1)
 |cons k ks=>
  have hn:=pairTrees_length (k::ks) vs pe pos ek hl;have AH:(pairTrees (k::ks) vs pe pos).length<=15:=by rw[hn];exact hlen
  rw[arm_eval_Dict,zip_pairTrees (k::ks) vs pe pos ek hl,dictDisplay_pairs _ (λe=>by rw[e]at hn;simp at hn) (a9 az (.num 17) [.l af (.num 15)] rfl AH)];refine wB (mW (wB ?_));refine wB (wpAny_alloc ?_);refine wB (dD ?_);rw[if_pos AH];refine wB (YA c h3 S1 (fd.cq T1) λbI s2 ws S2 T2 K9 hv=> ?_);refine dD (wB ?_);exact XQ (dv:=.ab st.length) (λY Y Y=>rfl) c.R1 S2 (T2.VR x1) h5 K9 hv λgy s3 S3 T3=>(aF (aF (aF (P gy s3 _ S3 ((T1.trans T2).trans T3) (T3.VR (T2.VR x1))))))
end
end
variable{Q:Unit→ao→Prop}
section
def YC{it t:Addr}(ba:t≠it):∀(n i:Nat) (s:ao) (Q:List ai->ao->Prop),s.heap.IsListIter it t i->s.heap.IsList t items->i+n<=items.size->(∀h',h'.IsListIter it t (i+n)->uE it s.heap h'->Q ((items.toList.drop i).take n) {s with heap:=h'})->aq (model prog w) A (draw (.ref it) n) Q E s:=by
 intro n;induction n with
 |zero=>intro i s Q hit _ _ hQ;exact aF (by simpa using hQ s.heap hit (Heap.SameBut.refl ..))
 |succ n ih=>
  intro i s Q hit ht hle hQ;have cB:i<items.size:=bq az av [.l (.add af aK) av] rfl hle;refine wB (wpAny_pyNext_list_item hit ht (x:=items[i]) (by simp[cB]) λik Ew iC=> ?_);refine wB (dD (ih (i+1) _ _ Ew (ht.extBut iC.extBut ba) (bq (.add az ak) av [.l (.add af aK) av] rfl hle) λkP YD ou=>aF ?_));have hd:items.toList.drop i=items[i]::items.toList.drop (i+1):=by simp[uM,cB]
  have:=hQ kP (by rw[show i+(n+1)=i+1+n by exact dU (aG (.add af aK) (.add az ak) [] rfl) (aG (.add az ak) (.add af aK) [] rfl)];exact YD) (iC.trans ou);rw[hd]at this;exact this
def La{t:Addr}{Q:List ai->ao->Prop}(hh:A.handled=none)(ht:s.heap.IsList t items)
 (hQ:∀h',uF s.heap.objs.size s.heap h'->Q items.toList {s with heap:=h'}):aq (model prog w) A (unpackItems (.ref t) items.size none) Q E s:=by
 have cB:t≠s.heap.objs.size:=by obtain⟨o,ho,_⟩:=ht;exact eN (eQ ho)
 refine wB ?_
 .refine wB (sh ht.typeIs slot_list_iter.lookup ?_);refine aF ?_;refine wB (dD (wpAny_pyIter_list ht ?_));refine b8 (dD (YC cB items.size 0 _ _ ⟨_,dX _ rfl,rfl,rfl⟩ (ht.push _) (a9 (.add iN af) af [] rfl) λik Ew iC=> ?_));have ek:List.take items.size (List.drop 0 items.toList)=items.toList:=by
   exact zJ (by simp)
  rw[ek];rw[if_neg (by simp)];have YE:ik.IsList t items:=(ht.push _).extBut iC.extBut cB;refine wB (dD (wpAny_pyNext_list_end hh Ew YE (by simp) λkP YF=> ?_));refine aF (hQ kP λb o hb e=>YF b o hb (iC.extBut b o hb (cS _ e)))
def YG{aa:Env}{elts:List Expr}{x1}{t:Addr}(hh:A.handled=none)(ht:s.heap.IsList t items)
 (hn:(oy elts aa).length=items.size) (YH:(oy elts aa).findIdx? (·.1)=none)
 (h:∀h',uF s.heap.objs.size s.heap h'->aq (model prog w) A (pW ((oy elts aa).map (·.2)) items.toList) Q E {s with heap:=h'}):
 aq (model prog w) A (assign (.Tuple elts x1 pos) aa (.ref t)) Q E s:=by
 refine wB (mW ?_);unfold unpack;rw[hn,YH];exact wB (dD (La hh ht h))
variable{t:Expr}{ts:List Expr}{r:aw×ah}
section
variable{st:ah}{I:aT}{aa:aO}
abbrev uU(F:Fix)(μ:Mp)(st:ah)(s:ao)(U:ah)(aa:aO)(pe:Env)(ax:aw)(Q:ao->Prop):Prop:=∀aI s',ar F aI U s'->Step (fX aa pe) μ st.length s.heap aI U.length s'.heap->bh F aI U.length s'.heap {aa with aj:=ax} pe->Q s'
def Ctx.aj(c:Ctx F mg mb I n A aa pe)(aj:aw):Ctx F mg mb I n A {aa with aj:=aj} pe:={c with fs:=⟨c.fs.kind,c.fs.glob,c.fs.bi,c.fs.ab,c.fs.gl,c.fs.cell,c.fs.free⟩}
def Step.k9{h:Heap}(T:Step cq μ N h aI N' h'):Step (fX aa pe) μ N h aI N' h':=T.weaken λY Y Y q=>q.elim
def Lb{h:Heap}(x:uF h.objs.size h h'):∀b o,h.get? b=some o->h'.get? b=some o:=λb o e=>x b o (eN (eQ e)) e
def Ey(h:cl t≠.no):oy (t::ts) pe=(false,assign t pe)::oy ts pe:=by
 cases t<;>first|rfl|exact(h rfl).elim
section
variable{f:aO->Expr->V->M aw}
def bindN_some(h:rZ aa nm v st=some (ax,U)):(kind aa nm=some .local\/kind aa nm=some .cell)/\jg aa.aj nm v=some ax/\st=U:=by
 unfold rZ at h;cases hk:kind aa nm with
 |none=>rw[hk]at h;exact noNS h
 |some k=>rw[hk]at h;cases k<;>first|exact noNS h|exact⟨.inl rfl,op_some h⟩|exact⟨.inr rfl,op_some h⟩
def Lc{Z:Expr->Prop}(h:qN P I f aa t v st=some r)(kN:∀n p,rZ aa n v st=some r->Z (.Name n p))(kA:∀o n p,(bd (I.ev aa o) λov=>bd (setAttr P ov n v) λY=>rt aa.aj) st=some r->Z (.Attribute o n p))
 (kS:∀o i p,(bd (I.ev aa o) λov=>bd (I.ev aa i) λiv=>bd (eU ov iv v) λY=>rt aa.aj) st=some r->Z (.Subscript o i p)) (kT:∀ts k p,(bd (jJ v) λxs=>if xs.length=ts.length then jh f aa ts xs else er) st=some r->Z (.Tuple ts k p)):Z t:=by
 have q:=og t;unfold qN at h;cases e:cl t with
 |name n=>rw[e]at h q;exact q.elim λp q=>q▸kN n p h
 |attr o n=>rw[e]at h q;exact q.elim λp q=>q▸kA o n p h
 |sub o i=>rw[e]at h q;exact q.elim λp q=>q▸kS o i p h
 |tup ts=>rw[e]at h q;exact q.elim λk q=>q.elim λp q=>q▸kT ts k p h
 |_=>rw[e]at h;exact noNS h
def Ld(h:qN P I f aa t v st=some r):cl t≠.no:=λe=>by unfold qN at h;rw[e]at h;exact noNS h
def YI(h:qN P I f aa t v st=some r):cl t≠.qM:=λe=>by unfold qN at h;rw[e]at h;exact noNS h
def YJ(um:∀{aa t v st r},f aa t v st=some r->cl t≠.no):∀{vs:List V} {aa:aO} {st:ah},jh f aa ts vs st=some (ax,U)->(oy ts pe).length=ts.length/\(oy ts pe).findIdx? (·.1)=none/\vs.length=ts.length:=by
 induction ts with
 |nil=>
  intro vs aa st h;cases vs with
  |nil=>exact⟨rfl,rfl,rfl⟩
  |cons=>exact noNS h
 |cons t ts ih=>
  intro vs aa st h;cases vs with
  |nil=>exact noNS h
  |cons v vs=>
   refine bc h λfG au h1 h2=> ?_;obtain⟨i1,i2,i3⟩:=ih h2;rw[Ey (um h1)];exact⟨congrArg n8 i1,by rw[uj,i2];rfl,congrArg n8 i3⟩
structure xc(F:Fix)(mg mb:Str->Option ai)(I:aT)(n:Nat)(A:bB)(pe:Env)(E:ai->ao->Prop)(f:aO->Expr->V->M aw):Prop where
 no:∀{aa t v st r},f aa t v st=some r->cl t≠.no
 ok:∀{t:Expr} {st U:ah} {μ:Mp} {s:ao} {aa:aO} {v:V} {u:ai} {ax:aw} {Q:Unit->ao->Prop},Ctx F mg mb I n A aa pe->ar F μ st s->bh F μ st.length s.heap aa pe->VR μ.ρ st.length s.heap v u->f aa t v st=some (ax,U)->uU F μ st s U aa pe ax (Q ())->aq F.m A (assign t pe u) Q E s
def YK(K:xc F mg mb I n A pe E f):∀{st U:ah} {μ:Mp} {s:ao} {aa:aO} {vs:List V} {us:List ai} {ax:aw} {Q:Unit->ao->Prop},Ctx F mg mb I n A aa pe->ar F μ st s->bh F μ st.length s.heap aa pe->aJ μ.ρ st.length s.heap vs us->jh f aa ts vs st=some (ax,U)->uU F μ st s U aa pe ax (Q ())->aq F.m A (pW ((oy ts pe).map (·.2)) us) Q E s:=by
 induction ts with
 |nil=>
  intro st U μ s aa vs us ax Q c S fd x h P;cases vs with
  |nil=>
   obtain⟨e,e'⟩:=rt_some h;subst e;subst e';exact aF (P μ s S (Step.refl ..) fd)
  |cons=>exact noNS h
 |cons t ts ih=>
  intro st U μ s aa vs us ax Q c S fd x h P;cases vs with
  |nil=>exact noNS h
  |cons v vs=>refine x.iq λu Jd e x r=>bc h λfG au h1 h2=> ?_;rw[e,Ey (K.no h1)];exact b8 (dD (K.ok (Q:=λY s'=>aq F.m A (pW ((oy ts pe).map (·.2)) _) Q E s') c S fd x h1 λbj s1 S1 T1 bN=>ih (c.aj fG) S1 bN (T1.aJ r) h2 λbI s2 S2 T2 cP=>P bI s2 S2 (T1.trans T2) cP))
def YL(K:xc F mg mb I n A pe E f)(c:Ctx F mg mb I n A aa pe)(S:ar F μ st s)(fd:bh F μ st.length s.heap aa pe)(x:VR μ.ρ st.length s.heap v u)
 (h:(bd (jJ v) λxs=>if xs.length=ts.length then jh f aa ts xs else er) st=some (ax,U)) (P:uU F μ st s U aa pe ax (Q ())):aq F.m A (assign (.Tuple ts k pos) pe u) Q E s:=by
 refine bc h λxs au h1 h2=> ?_;clear h;have h2:=(if_some h2).2;obtain⟨i1,i2,i3⟩:=YJ (pe:=pe) K.no h2;have fin:∀{vs:List ai} {h':Heap},uF s.heap.objs.size s.heap h'->aJ μ.ρ st.length s.heap xs vs->st=au->aq F.m A (pW ((oy ts pe).map (·.2)) vs) Q E {s with heap:=h'}:=λhx hv e=>by
  have kp:=Lb hx;exact YK K c (S.keeps (s':={s with heap:=_}) kp rfl rfl) (fd.cq (Step.of_keeps kp)) (hv.mono (λY Y=>rfl) (bG _) (cM.of_keeps kp)) (e▸h2) λbI s2 S2 T2 cP=>P bI s2 S2 ((Step.of_keeps kp).trans T2) cP
 cases v<;>first|exact noNS h1|skip
 case tup l=>
  obtain⟨e,e'⟩:=rt_some h1;refine x.out.elim λa q=>q.elim λvs q=> ?_;rw[q.1];exact wpAny_assign_Tuple c.R.handled q.2.1 (by rw(occs:=.all) [i1,eI,q.2.2.length,e,i3]) i2 λh' hx=>fin hx (e▸q.2.2) e'
 case ab l=>
  refine bc h1 λp aH h3 h4=> ?_;clear h1;obtain⟨e,h5,e5⟩:=getL_some h3;obtain⟨e6,e7⟩:=rt_some h4;cases e;obtain⟨vs,L,hv,_⟩:=fV S h5;rw(occs:=.all) [x.out.1];exact YG c.R.handled L (by rw(occs:=.all) [i1,eI,hv.length,e6,i3]) i2 λh' hx=>fin hx (e6▸hv) (e5.trans e7)
def YM(K:xc F mg mb I n A pe E f):xc F mg mb I n A pe E (qN F.P I f):=by
 refine⟨Ld,λ{t st U μ s aa v u ax Q} c S fd x h P=> ?_⟩;refine Lc (Z:=λt=>aq F.m A (assign t pe u) Q E s) h (λnm pos h=> ?_) (λo a pos h=> ?_) (λo i pos h=> ?_) λts k pos h=>YL K c S fd x h P
 .obtain⟨hk,hv,e⟩:=bindN_some h;subst e;exact wpAny_assign_Name (JC S c.fs fd hk hv x λs1 S1 T1 bN=>P μ s1 S1 T1 bN)
 .refine bc h λov au h1 h2=>bc h2 λY aH h3 h4=> ?_;obtain⟨e,e'⟩:=rt_some h4;subst e;subst e';refine wB (dD (c.ev S fd h1 λbj s1 w S1 T1 bN y=>wB (mW (wB (dD ?_)))));exact SG (Q:=λY s'=>aq F.m A (release [u,w] []) Q E s') c.O S1 h3 y (T1.VR x) λbI s2 S2 T2=>wpAny_release (P bI s2 S2 (T1.trans T2).k9 (fd.cq (T1.trans T2)))
 .refine bc h λov au h1 h2=>bc h2 λiv aH h3 h4=>bc h4 λY aQ h5 h6=> ?_;clear h h2 h4;obtain⟨e,e'⟩:=rt_some h6;subst e;subst e';refine wB (dD (c.ev S fd h1 λbj s1 w S1 T1 bN y=>wB (dD (c.ev S1 bN h3 λbI s2 z S2 T2 cP q=>wB (mW (wB (dD ?_)))))));exact Tw (Q:=λY s'=>aq F.m A (release _ []) Q E s') S2 c.R1 h5 (T2.VR y) q (T2.VR (T1.VR x)) λgy s3 S3 T3=>wpAny_release (P gy s3 S3 ((T1.trans T2).trans T3).k9 (fd.cq ((T1.trans T2).trans T3)))
def YN:∀d,xc F mg mb I n A pe E (ji F.P I d):=by
 intro l0;induction l0 with
 |zero=>exact⟨λh=>noNS h,λY Y Y Y h Y=>noNS h⟩
 |succ d ih=>exact YM (ih)
def xe(c:Ctx F mg mb I n A aa pe)(S:ar F μ st s)(fd:bh F μ st.length s.heap aa pe)(x:VR μ.ρ st.length s.heap v u)(h:ef F.P I aa t v st=some (ax,U))(P:uU F μ st s U aa pe ax (Q ())):
 aq F.m A (assign t pe u) Q E s:=(YN 3).ok c S fd x h P
def Ez(h:ef P I aa t v st=some r):oy [t] pe=[(false,assign t pe)]:=Ey (Ld h)
end
end
end
variable{b:ah}{Q:Flow→ao→Prop}{k0 N0:Nat}{cf:Mp}{h0:Heap}
section
variable{Q:ai->ao->Prop}
section
variable{st:ah}{I:aT}{aa:aO}
def EA(S:ar F μ st s){as:List Addr}(hf:∀a∈as,s.heap.get? a=none)(ho:jS s'.heap as):eD F μ st.length s'.heap as:=by
 refine⟨λa ha=> ?_,λa ha l hl e=> ?_,ho⟩
 .cases q:F.h₀.get? a with
  |none=>rfl
  |some o=>have:=S.base _ _ q;rw[hf a ha]at this;cases this
 .obtain⟨o,g,_⟩:=S.payload hl;rw[e,hf a ha]at g;cases g
abbrev sQ(F:Fix)(μ:Mp)(st:ah)(s:ao)(src:Src)(Q:ai->ao->Prop):Prop:=∀s' as,ar F μ st s'->(∀b o,s.heap.get? b=some o->s'.heap.get? b=some o)->(∀a∈as,s.heap.get? a=none)->eD F μ st.length s'.heap as->stI μ st.length s'.heap as 0 src->Q (.ref (as.headD 0)) s'
def sQ.go{src:Src}(P:sQ F μ st s src Q)(S:ar F μ st s)(oA:ob.isFreed=false)(j:stI μ st.length (s.heap.push ob) [s.heap.objs.size] 0 src):Q (.ref s.heap.objs.size) {s with heap:=s.heap.push ob}:=
 have k:=λb o' e=>cS _ e;have hf:=λa ha=>fH.mp ha▸pE _
 P {s with heap:=s.heap.push ob} [s.heap.objs.size] (S.keeps k rfl rfl) k hf (EA (s':={s with heap:=s.heap.push ob}) S hf (pN j)) j
def YO(O:Ok F)(S:ar F μ st s){kvs:List (V×V)}{ep:Nat}(hl:l<st.length)(e3:st[l]? =some (.dict kvs (some ep)))(hk:kvs.all (λp=>p.1.isInt)=true)(P:sQ F μ st s (.dict l kvs.length ep) Q):aq F.m A (pyIter (.ref (μ.ρ l))) Q E s:=by
 obtain⟨es,m,wx,hd,rr,nd,fW,lW⟩:=dictAt S e3;refine(rr.zo (F:=F) hk nd).elim λks K=> ?_;have D:s.heap.DictAt (cV F.prog F.w) (μ.ρ l) ks ep:=⟨_,_,hd,⟨rfl,rfl,rfl⟩,lW ep rfl▸rfl,λe he=>K.k e (wb.mp he),by simpa using K.p,K.nd⟩;have ns:=O.pz S hl;rw[<-wx]at ns;refine wpAny_pyIter_dict ns D ?_;rw[((aP ..).symm.trans ((congrArg n7 K.e).trans (aP ..)))];exact P.go S rfl ⟨_,rfl,hl,⟨_,dX _ rfl,rfl,rfl⟩⟩
private def EB(O:Ok F)(S:ar F μ st s){src:Src}(x:VR μ.ρ st.length s.heap v u)(h:srcOf v st=some (src,U))(P:sQ F μ st s src Q):st=U/\aq F.m A (pyIter u) Q E s:=by
 cases v<;>first|exact noNS h|skip
 case tup l=>
  obtain⟨e,e'⟩:=rt_some h;refine⟨e',x.out.elim λa q=>q.elim λvs q=>q.1▸wpAny_pyIter_tuple q.2.1 ((e▸P:sQ F μ st s (.items l) Q).go S rfl (.inl ⟨_,a,vs,rfl,q.2.1.push _,q.2.2.mono (λY Y=>rfl) (bG _) (cM.of_keeps λb o' e=>cS _ e),⟨_,dX _ rfl,rfl,rfl⟩⟩))⟩
 case cY n=>
  obtain⟨e,e'⟩:=rt_some h;refine⟨e',x.out.elim λa q=>q.elim λt q=>q.elim λu' q=>q.elim λv' q=>q.1▸ ?_⟩;refine wpAny_pyIter_range q.2.2 (Jw q.2.1) ((e▸P:sQ F μ st s (.items _) Q).go S rfl (.inr ⟨_,n,rfl,rfl, ?_⟩));rw[Jy];simpa[IsRangeIter]using(dX s.heap (o:={cls:=.type "range_iterator",data:=.fields #[gf 0,gf n,gf 1]}) rfl)
 case ab l=>
  refine bc h λo au e1 e2=> ?_;obtain⟨e3,e4⟩:=getO_some e1;subst e4;rw[x.out.1];have hl:=x.out.2;cases o with
  |list xs=>
   obtain⟨e,e'⟩:=rt_some e2;obtain⟨vs,L,rv,_⟩:=fV S e3;exact⟨e',wpAny_pyIter_list L ((e▸P:sQ F μ st s (.list l) Q).go S rfl ⟨_,rfl,hl,⟨_,dX _ rfl,rfl,rfl⟩⟩)⟩
  |dict kvs ep=>
   cases ep with
   |none=>exact noNS e2
   |some ep=>
    have eX:(if kvs.all (λp=>p.1.isInt)then rt (.dict l kvs.length ep)else er) st=some (src,U):=e2;cases hk:kvs.all (λp=>p.1.isInt)with
    |false=>rw[hk]at eX;exact noNS eX
    |true=>
     rw[hk]at eX;obtain⟨e,e'⟩:=rt_some eX;exact⟨e',YO O S hl e3 hk (e▸P)⟩
  |inst _ _=>exact noNS e2
def Le{src:Src}{i:Nat}(h:nX src i st=some (r,U)):st=U:=by
 cases src with
 |items xs=>exact(rt_some h).2
 |enum xs=>exact(rt_some h).2
 |list l=>
  obtain⟨o,au,e1,e2⟩:=bd_some h;obtain⟨_,rfl⟩:=getO_some e1;cases o<;>first|exact(rt_some e2).2|cases e2
 |dict l n ep=>
  obtain⟨o,au,e1,e2⟩:=bd_some h;obtain⟨_,rfl⟩:=getO_some e1;cases o with
  |dict kvs e=>
   have eX:(if kvs.length=n/\e=some ep/\kvs.all (λp=>p.1.isInt)then rt (kvs[i]?.map (·.1))else er) st=some (r,U):=e2;split at eX
   .exact(rt_some eX).2
   .cases eX
  |_=>cases e2
def Step.xf{as:List Addr}{h:Heap}(T:Step (λb=>X b\/b∈as) μ N h aI N' h1)(io:jS h1 as)(k:∀b o,b∉as->h1.get? b=some o->h2.get? b=some o)(fr:∀a∈as,h.get? a=none):Step X μ N h aI N' h2:=by
 have sF:∀b o,h.get? b=some o->b∉as:=λb o e hb=>by rw[fr b hb]at e;cases e
 exact⟨T.len,T.ρ,T.σ,T.new,λb o e hX gc=>k b o (sF b o e) (T.keep b o e (λq=>q.elim hX (sF b o e)) gc),λb o e=>(T.mJ b o e).imp λo' e'=>k b o' (sF b o e) e',T.kQ.trans (wL io k)⟩
def bh.but{as:List Addr}{h:Heap}(f:bh F μ N h aa pe)(io:jS h as)(k:∀b o,b∉as->h.get? b=some o->h'.get? b=some o)(hL:pe.locals∉as)(hC:∀n c,pe.cells.lookup n=some c->c∉as):bh F μ N h' aa pe:=by
 have im:=wL io k;obtain⟨m,⟨o,es,ep,ho,hd,hk,hf⟩,hv⟩:=f.ns;refine⟨⟨m,⟨o,es,ep,k _ _ hL ho,hd,hk,hf⟩,λn v h1 h2=>(hv n v h1 h2).imp λY h=>⟨h.1,h.2.mono (λY Y=>rfl) (bG _) im⟩⟩,λn hn=> ?_,f.out,f.sm,f.σ,f.rj,f.ne,f.inj,λn c hc=> ?_⟩
 .obtain⟨c,v,hc,⟨oc,pF,pG⟩,hv⟩:=f.cell n hn;exact⟨c,v,hc,⟨oc,k _ _ (hC n c hc) pF,pG⟩,λw hw=>(hv w hw).imp λY h=>⟨h.1,h.2.mono (λY Y=>rfl) (bG _) im⟩⟩
 .obtain⟨o',fY⟩:=f.has n c hc;exact⟨o',k _ _ (hC n c hc) fY⟩
def bh.apart{h:Heap}(f:bh F μ N h aa pe){as:List Addr}(hf:∀a∈as,h.get? a=none):pe.locals∉as/\∀n c,pe.cells.lookup n=some c->c∉as:=by
 refine⟨λhm=> ?_,λn c hc hm=> ?_⟩
 .obtain⟨m,⟨o,es,ep,ho,_⟩,_⟩:=f.ns;rw[hf _ hm]at ho;cases ho
 .obtain⟨o,ho⟩:=f.has n c hc;rw[hf _ hm]at ho;cases ho
def Lf{h:Heap}{as:List Addr}{i:Nat}{src:Src}(j:sy μ N h as i u src):jS h as:=by
 cases src with
 |enum xs=>
  exact j.2.elim λe j=>j.elim λit j=>j.elim λt j=>j.elim λvs j=>j.elim λx j=>j.elim λT j a ha=>(show a=e\/a=it from sA.mp (j.1▸ha)).elim (λq=>q▸⟨_,j.2.2.2.2.2.1,z' (T:="enumerate") rfl rfl (by decide) (by decide)⟩)
   λq=>q▸j.2.2.2.2.2.2.elim λo r=>⟨o,r.1,z' r.2.1 r.2.2 (by decide) (by decide)⟩
 |list l=>exact pN (src:=.list l) j
 |dict l n ep=>exact pN (src:=.dict l n ep) j
 |items xs=>exact pN (src:=.items xs) j
private def EC{src:Src}(h:srcOf v st=some (src,U)):st=U/\∀xs,src≠.enum xs:=by
 have fin:∀{Lg:Src} {dh:ah},(∀xs,Lg≠.enum xs)->rt Lg dh=some (src,U)->dh=U/\∀xs,src≠.enum xs:=λhn h=>⟨(rt_some h).2,(rt_some h).1▸hn⟩;cases v<;>first|exact noNS h|skip
 case tup l=>exact fin (λxs q=>by cases q) h
 case cY n=>exact fin (λxs q=>by cases q) h
 case ab l=>
  refine bc h λo b6 e1 e2=> ?_;rw[(getO_some e1).2];clear e1;cases o with
  |list xs=>exact fin (λxs q=>by cases q) e2
  |inst _ _=>exact noNS e2
  |dict kvs ep=>
   cases ep with
   |none=>exact noNS e2
   |some ep=>
    have eX:(if kvs.all (λp=>p.1.isInt)then rt (.dict l kvs.length ep)else er) b6=some (src,U):=e2;cases hk:kvs.all (λp=>p.1.isInt)with
    |false=>rw[hk]at eX;exact noNS eX
    |true=>rw[hk]at eX;exact fin (λxs q=>by cases q) eX
structure FC(pe:Env)(as:List Addr)(h0:Heap):Prop where
 fr:∀x∈as,h0.get? x=none
 L:pe.locals∉as
 C:∀n c,pe.cells.lookup n=some c->c∉as
def FC.own{as:List Addr}{h0:Heap}(c:FC pe as h0):∀x∈as,¬fX aa pe x:=λx ha q=>q.elim (λq=>c.L (q▸ha)) λq=>q.elim λm q=>c.C m x q.2 ha
structure FI(F:Fix)(pe:Env)(aa:aO)(as:List Addr)(cf:Mp)(N0:Nat)(h0:Heap)(aj:aw)(μ:Mp)(st:ah)(s:ao):Prop where
 S:ar F μ st s
 T:Step (λb=>fX aa pe b\/b∈as) cf N0 h0 μ st.length s.heap
 fd:bh F μ st.length s.heap {aa with aj:=aj} pe
 io:eD F μ st.length s.heap as
section
variable{as:List Addr}{aj:aw}
def FI.xg(c:FC pe as h0)(B:FI F pe aa as cf N0 h0 aj μ st s)(S:ar F μ st s')(T:Step (·∈as) μ st.length s.heap μ st.length s'.heap)(o:jS s'.heap as):FI F pe aa as cf N0 h0 aj μ st s':=⟨S,B.T.trans (T.weaken λY Y Y q=>.inr q),B.fd.step T c.L c.C,⟨B.io.out,B.io.σ,o⟩⟩
def FI.own(c:FC pe as h0)(B:FI F pe aa as cf N0 h0 aj μ st s)(S:ar F aI U s')(T:Step X μ st.length s.heap aI U.length s'.heap)(hX:∀b,X b->fX aa pe b)(fd:bh F aI U.length s'.heap {aa with aj:=ax} pe):FI F pe aa as cf N0 h0 ax aI U s':=⟨S,B.T.trans (T.weaken λb Y Y q=>.inl (hX b q)),fd,B.io.step T λx hx q=>c.own x hx (hX x q)⟩
end
abbrev ED(F:Fix)(pe:Env)(aa:aO)(cf:Mp)(N0:Nat)(h0:Heap)(fl:Fl)(ax:aw)(st:ah)(Q:Flow->ao->Prop):Prop:=∀aI s' f,ar F aI st s'->Step (fX aa pe) cf N0 h0 aI st.length s'.heap->bh F aI st.length s'.heap {aa with aj:=ax} pe->sr aI.ρ st.length s'.heap fl f->Q f s'
structure FH(F:Fix)(pe:Env)(aa:aO)(I:aT)(bP:Expr)(b:List Stmt)(as:List Addr)(cf:Mp)(N0:Nat)(h0:Heap)(src:Src)(fl:Fl)(ax:aw)(U:ah)(k i:Nat)(aj:aw)(μ:Mp)(st:ah)(s:ao):Prop where
 h:forL src (λv aj=>bd (ef F.P I {aa with aj:=aj} bP v) λax=>I.cZ {aa with aj:=ax} b) k i aj st=some ((fl,ax),U)
 B:FI F pe aa as cf N0 h0 aj μ st s
 j:stI μ st.length s.heap as i src
section
variable{as:List Addr}{bP:Expr}{b:List Stmt}{aj:aw}
def YP{Q:Flow->ao->Prop}(c:Ctx F mg mb I n A aa pe)(C:FC pe as h0)(xh:∀xs,src= .enum xs->isTup bP=true)(B:FI F pe aa as cf N0 h0 aj μ st s)(m:sy μ st.length s.heap as (i+1) u src)(x:VR μ.ρ st.length s.heap v u)
 (h:bd (bd (ef F.P I {aa with aj:=aj} bP v) λax=>I.cZ {aa with aj:=ax} b) (λr=>match r.1 with
  |.next=>forL src (λv aj=>bd (ef F.P I {aa with aj:=aj} bP v) λax=>I.cZ {aa with aj:=ax} b) k (i+1) r.2
  |.ret _=>rt r) st=some ((fl,ax),U))
 (hN:∀aj μ st s,FH F pe aa I bP b as cf N0 h0 src fl ax U k (i+1) aj μ st s->Q .next s) (P:∀μ s w,ar F μ U s->Step (fX aa pe) cf N0 h0 μ U.length s.heap->bh F μ U.length s.heap {aa with aj:=ax} pe->sr μ.ρ U.length s.heap fl (.ret w)->Q (.ret w) s):
 aq F.m A (rz bP (.ref (as.headD 0)) u) (λY s1=>aq F.m A (assign bP pe u) (λY s2=>aq F.m A (execs b pe) Q E s2) E s1) E s:=by
 refine bc h λr b6 h4 h5=>bc h4 λLh dE h6 h7=> ?_;clear h h4;refine J0 B.S B.io m xh λs3 S3 T3 j3=> ?_;have B3:=B.xg C S3 T3 (pN j3);refine xe (c.aj aj) S3 B3.fd (T3.VR x) h6 λAI s5 S5 T5 pX=> ?_;have B5:=B3.own (ax:=Lh) C S5 T5 (λY q=>q) pX;refine c.hX c.R0 S5 (c.aj Lh).fs pX h7 λEE s6 f S6 T6 Li hf=> ?_;have B6:=B5.own (ax:=r.2) C S6 T6 (λY q=>q) Li;refine hf.el (λe1 e2=> ?_) λv u e1 e2 hv=> ?_
 .rw[e1]at h5;rw[e2];exact hN _ _ _ _ ⟨h5,B6,((j3.step T5 C.own B3.io.σ).step T6 C.own B5.io.σ)⟩
 .clear hN;rw[e1]at h5;rw[e2];obtain⟨q,e⟩:=rt_some h5;subst e;exact P EE s6 _ S6 (B6.T.xf B6.io.off (λY Y Y e=>e) C.fr) ((show r.2=ax from congrArg (·.2) q)▸Li) ((show fl= .ret v from(congrArg (·.1) q).symm.trans e1)▸ .ret hv)
abbrev Lj(F:Fix)(A:bB)(bP:Expr)(it:ai)(b:List Stmt)(pe:Env)(Q0:ao->Prop)(Q:Flow->ao->Prop)(E:ai->ao->Prop)(r:Option ai)(s:ao):Prop:=match r with
 |none=>Q0 s
 |some u=>aq F.m A (rz bP it u) (λY s1=>aq F.m A (assign bP pe u) (λY s2=>aq F.m A (execs b pe) Q E s2) E s1) E s
abbrev uV(R:Result->ao->Prop)(J:Nat->ao->Prop)(k:Nat)(f:Flow)(s:ao):Prop:=match f with
 |.next|.cont=>∃m,m<k/\J m s
 |.brk=>R (.ok .next) s
 |.ret v=>R (.ok (.ret v)) s
def YQ{it:ai}(J:Nat->ao->Prop)(turn:∀k s,J k s->aq F.m A (pyNext it) (Lj F A bP it b pe (R (.ok .next)) (uV R J k) (notedBy F.m A pe λe s'=>R (.error e) s')) (notedBy F.m A pe λe s'=>R (.error e) s') s)
 (k:Nat) (h:J k s):iV F.m A (.forLoop bP it b [] pe) R s:=
 codeAny_forLoop_any J (λk s h=>wpAny_mono (turn k s h) (λr s h=>by
  cases r with
  |none=>exact aF h
  |some u=>exact h) λY Y h=>h) k h
def YR{J:Nat->ao->Prop}{k:Nat}(c:Ctx F mg mb I n A aa pe)(C:FC pe as h0)(xh:∀xs,src= .enum xs->isTup bP=true)(H:FH F pe aa I bP b as cf N0 h0 src fl ax U (k+1) i aj μ st s)
 (hN:∀aj μ st s,FH F pe aa I bP b as cf N0 h0 src fl ax U k (i+1) aj μ st s->uV R J (k+1) .next s) (P:ED F pe aa cf N0 h0 fl ax U λf s=>R (.ok f) s):
 aq F.m A (pyNext (.ref (as.headD 0))) (Lj F A bP (.ref (as.headD 0)) b pe (R (.ok .next)) (uV R J (k+1)) E) E s:=by
 obtain⟨h,B1,j1⟩:=H;refine bc h λx aH h2 h3=> ?_;clear h;have xi:=Le h2;subst xi;refine(Af c.O c.R.handled B1.S B1.io j1 h2 (λe s2 S2 kp=> ?_) λv e u s2 S2 T2 x m2=> ?_).2
 .clear h2;subst e;obtain⟨e,e'⟩:=rt_some h3;subst e';cases e;exact P μ s2 .next S2 (B1.T.xf B1.io.off kp C.fr) (B1.fd.but B1.io.off kp C.L C.C) .next
 .clear h2;subst e;exact YP (k:=k) c C xh (B1.xg C S2 T2 (Lf m2)) m2 x h3 hN λμ s w=>P μ s (.ret w)
def Lk(c:Ctx F mg mb I n A aa pe)(C:FC pe as h0)(xh:∀xs,src= .enum xs->isTup bP=true)(H:FH F pe aa I bP b as cf N0 h0 src fl ax U k0 0 aj μ st s)(P:ED F pe aa cf N0 h0 fl ax U λf s=>R (.ok f) s):
 iV F.m A (.forLoop bP (.ref (as.headD 0)) b [] pe) R s:=by
 refine YQ (λk s1=>∃i fG bj au,FH F pe aa I bP b as cf N0 h0 src fl ax U k i fG bj au s1) (λk s1 H=> ?_) k0 ⟨0,aj,μ,st,H⟩;refine H.elim λi H=>H.elim λfG H=>H.elim λbj H=>H.elim λau H=> ?_;cases k with
 |zero=>exact noNS H.h
 |succ k=>exact YR c C xh H (λaj μ st s H=>⟨k,oB k,i+1,aj,μ,st,H⟩) P
end
end
end
variable{v2:aw}
section
variable{ns:List Str}
section
variable{st:ah}{I:aT}{aa:aO}
abbrev rE:aw->List Str->List V->Option aw
 |aj,[],vs=>(match vs with|[]=>some aj|_::_=>none)
 |aj,n::ns,vs=>(match vs with|[]=>none|v::vs=>(jg aj n v).bind λax=>rE ax ns vs)
def bh.forget{h:Heap}{v1:aw}(f:bh F μ N h {aa with aj:=v1} pe)(e:∀m w,cF v2 m=some w->cF v1 m=some w):bh F μ N h {aa with aj:=v2} pe:=⟨f.ns.imp λm h=>⟨h.1,λn v h1 h2=>h.2 n v h1 (e n v h2)⟩,λn hn=>(f.cell n hn).imp λc h=>h.imp λx h=>⟨h.1,h.2.1,λv h2=>h.2.2 v (e n v h2)⟩,f.out,f.sm,f.σ,f.rj,f.ne,f.inj,f.has⟩
def bh.congr{h:Heap}{v1:aw}(f:bh F μ N h {aa with aj:=v1} pe)(e:∀m,cF v2 m=cF v1 m):bh F μ N h {aa with aj:=v2} pe:=f.forget λm Y q=>(e m).symm.trans q
def YS:∀{vs:List V} {us:List ai} {aa:aO} {ax:aw} {s:ao} {Q:Unit->ao->Prop},ar F μ st s->iB aa pe->bh F μ st.length s.heap aa pe->(∀m∈ns,kind aa m=some .local)->rE aa.aj ns vs=some ax->aJ μ.ρ st.length s.heap vs us->(∀s',ar F μ st s'->Step (fX aa pe) μ st.length s.heap μ st.length s'.heap->bh F μ st.length s'.heap {aa with aj:=ax} pe->Q () s')->aq F.m A (pW (ns.map λm=>bindName pe m) us) Q E s:=by
 induction ns with
 |nil=>
  intro vs us aa ax s Q S fs fd hk h x P;cases x with
  |nil=>cases h;exact aF (P s S (Step.refl ..) fd)
  |cons _ _=>cases h
 |cons m ns ih=>
  intro vs us aa ax s Q S fs fd hk h x P;cases x with
  |nil=>cases h
  | @cons v u vs us x r=>
   obtain⟨v1,h1,h2⟩:=fg.mp h;refine b8 (dD (wpAny_bindName ?_));refine JC (Q:=λY s'=>aq F.m A (pW (ns.map λm=>bindName pe m) us) Q E s') S fs fd (.inl (hk m dz)) h1 x λs1 S1 T1 bN=> ?_;have YT:iB {aa with aj:=v1} pe:=⟨fs.kind,fs.glob,fs.bi,fs.ab,fs.gl,fs.cell,fs.free⟩;exact ih (aa:={aa with aj:=v1}) S1 YT bN (λm hm=>hk m (dM _ hm)) h2 (T1.aJ r) λs2 S2 T2 cP=>P s2 S2 (T1.trans T2) cP
abbrev has(aj:aw)(n:Str):Prop:=n∈aj.map (·.1)
def YU{n:Str}{v:V}{aj:aw}:has aj n->∃ax,jg aj n v=some ax/\ax.map (·.1)=aj.map (·.1):=by
 induction aj with
 |nil=>intro h;cases h
 |cons p r ih=>
  intro h;rw[yV];by_cases e:p.1=n
  .rw[if_pos e];exact⟨_,rfl,rfl⟩
  .rw[if_neg e];have:has r n:=by
    rcases bU.mp h with q|q
    .exact absurd q.symm e
    .exact q
   obtain⟨v',h1,h2⟩:=ih this;exact⟨_,by rw[h1];rfl,by simp[h2]⟩
def YV{n:Str}{v:V}:∀{aj ax:aw},jg aj n v=some ax->has aj n/\ax.map (·.1)=aj.map (·.1):=by
 intro l0;induction l0 with
 |nil=>intro _ h;cases h
 |cons p r ih=>
  intro ax h;rw[yV]at h;split at h
  .rename_i e;cases h;exact⟨by subst e;exact dz,rfl⟩
  .obtain⟨q,h1,rfl⟩:=gV.mp h;obtain⟨a,b⟩:=ih h1;exact⟨dM _ a,by simp[b]⟩
def YW:∀{vs:List V} {aj:aw},(∀m∈ns,has aj m)->vs.length=ns.length->∃ax,rE aj ns vs=some ax:=by
 induction ns with
 |nil=>intro vs aj _ hl;cases vs with|nil=>exact⟨_,rfl⟩|cons _ _=>cases hl
 |cons m ns ih=>
  intro vs aj hh hl;cases vs with
  |nil=>cases hl
  |cons v vs=>
   obtain⟨v1,h1,h2⟩:=YU (v:=v) (hh m dz);obtain⟨v2,h3⟩:=ih (vs:=vs) (aj:=v1) (λk hk=>by unfold has;rw[h2];exact hh k (dM _ hk)) (by simpa using hl);exact⟨v2,(fg (f:=λax=>rE ax ns vs)).mpr ⟨v1,h1,h3⟩⟩
def YX:∀{vs:List V} {aj ax:aw},rE aj ns vs=some ax->(∀m∈ns,has aj m)/\vs.length=ns.length:=by
 induction ns with
 |nil=>intro vs aj ax h;cases vs with|nil=>exact⟨λY hm=>(by cases hm),rfl⟩|cons _ _=>cases h
 |cons m ns ih=>
  intro vs aj ax h;cases vs with
  |nil=>cases h
  |cons v vs=>
   obtain⟨v1,h1,h2⟩:=fg.mp h;clear h;obtain⟨a,b⟩:=YV h1;clear h1;obtain⟨i1,i2⟩:=ih h2;refine⟨λk hk=> ?_,by simp[i2]⟩;rcases bU.mp hk with rfl|hk
   .exact a
   .have:=i1 k hk;unfold has at this⊢;rw[b]at this;exact this
def Ll:∀{vs:List V} {aj ax:aw},ns.Nodup->rE aj ns vs=some ax->∀m,cF ax m=match(ns.zip vs).lookup m with|some v=>some v|none=>cF aj m:=by
 induction ns with
 |nil=>intro vs aj ax _ h m;cases vs with|nil=>cases h;rfl|cons _ _=>cases h
 |cons k ns ih=>
  intro vs aj ax nd h m;cases vs with
  |nil=>cases h
  |cons v vs=>
   rw[d0]at nd;obtain⟨v1,h1,h2⟩:=fg.mp h;clear h;rw[ih nd.2 h2 m,List.zip_cons_cons,oj];by_cases e:m=k
   .subst e;have hz:(ns.zip vs).lookup m=none:=by
     rw[YY];intro p hp;rw[bne_iff_ne];intro q;exact nd.1 (q▸((U4 hp).1))
    rw[hz,beq_self_eq_true,ux h1 m,if_pos rfl]
   .rw[beq_eq_false_iff_ne.mpr e];cases(ns.zip vs).lookup m with
    |some w=>rfl
    |none=>rw[ux h1 m,if_neg e]
def YZ{vs:List V}(nd:ns.Nodup)(hl:vs.length=ns.length)(m:Str):(ns.reverse.zip vs.reverse).lookup m=(ns.zip vs).lookup m:=by
 have e:ns.reverse.zip vs.reverse=(ns.zip vs).reverse:=by rw[Y0,Y0,List.reverse_zipWith hl.symm]
 rw[e];have Lm:((ns.zip vs).map (·.1)).Nodup:=by rw[List.map_fst_zip (aG ak af [.q af ak] rfl hl)];exact nd
 generalize ns.zip vs=l at Lm;cases q:l.lookup m with
 |none=>rw[YY]at q⊢;intro p hp;exact q p (xj.mp hp)
 |some v=>refine UW ?_ (xj.mpr (mem_of_lookup q));rw[Y1];exact(Y2 _).nodup_iff.mpr Lm
def Ln{f:aO->Expr->V->M aw}(hf:∀aa m p v,f aa (.Name m p) v=rZ aa m v){ts:List Expr}:∀{ns:List Str} {vs:List V} {aa:aO} {st:ah} {ax:aw},(∀(j:Nat) (t:Expr),ts[j]? =some t->∃m p,t= .Name m p/\ns[j]? =some m)->ts.length=ns.length->jh f aa ts vs st=some (ax,U)->rE aa.aj ns vs=some ax/\st=U/\∀m∈ns,kind aa m=some .local\/kind aa m=some .cell:=by
 induction ts with
 |nil=>
  intro ns vs aa st ax _ hl h;cases ns with
  |nil=>
   cases vs with
   |nil=>obtain⟨e,e'⟩:=rt_some h;exact⟨congrArg some e,e',λY hm=>nomatch hm⟩
   |cons=>exact noNS h
  |cons=>exact nomatch hl
 |cons t ts ih=>
  intro ns vs aa st ax ht hl h;cases ns with
  |nil=>exact nomatch hl
  |cons m ns=>
   cases vs with
   |nil=>exact noNS h
   |cons v vs=>
    refine bc h λv1 au h1 h2=>(ht 0 t rfl).elim λm' q=>q.elim λp q=> ?_;rw[q.1,hf,<-bF q.2]at h1;obtain⟨hk,hv,e⟩:=bindN_some h1;obtain⟨i1,i2,i3⟩:=ih (ns:=ns) (aa:={aa with aj:=v1}) (λj t hj=>ht (j+1) t hj) (iS hl) h2;refine⟨fg.mpr ⟨v1,hv,i1⟩,e.trans i2,λk EF=> ?_⟩;rcases bU.mp EF with e|EF
    .rw[e];exact hk
    .exact i3 k EF
def Y3{e:Expr}(h:yX e=true):constantsAlone 8 e=false:=by
 have q:=og e;unfold yX at h;cases hc:cl e with
 |name n=>rw[hc]at h q;exact q.elim λp q=>q▸beq_eq_false_iff_ne.mpr (zO ((uT _).mp h))
 |qM=>rw[hc]at q;exact q.elim (λq=>q.elim λes q=>q.elim λp q=>q▸rfl) λq=>q.elim λa q=>q.elim λb q=>q.elim λp q=>q▸rfl
 |call f as ks=>rw[hc]at q;exact q.elim λp q=>q▸rfl
 |attr o n=>rw[hc]at q;exact q.elim λp q=>q▸rfl
 |sub o i=>
  rw[hc]at h q;have q':=og o;have h:CK o=true:=h;unfold CK at h;cases ho:cl o with
  |attr o' n=>rw[ho]at q';exact q.elim λp q=>q'.elim λp' q'=>q▸q'▸rfl
  |_=>rw[ho]at h;exact cu h
 |_=>rw[hc]at h;exact cu h
end
end
variable{line:Nat}
section
def Y4:∀(k:Nat) (l:List Str),l.length<=k->l.eraseDups.length<=l.length:=by
 intro k;induction k with
 |zero=>intro l h;rw[se.mp (KU.mp h),Y5];exact bG _
 |succ k ih=>
  intro l h;cases l with
  |nil=>rw[Y5];exact bG _
  |cons a l=>
  rw[Y6];have h1:=jU (λb=> !b==a) l
  exact bq bD aK [.l af ak,.l av af] rfl h1 (ih (l.filter λb=> !b==a) (bx h1 (Jc h)))
def Y7:∀(k:Nat) (l:List Str),l.length<=k->l.eraseDups.length=l.length->l.Nodup:=by
 intro k;induction k with
 |zero=>exact λl h Y=>se.mp (KU.mp h)▸ .nil
 |succ k ih=>
  intro l h e;cases l with
  |nil=>exact .nil
  |cons a l=>
  replace h:=Jc h;rw[Y6]at e;have h1:=jU (λb=> !b==a) l;have h4:=List.length_filter_eq_length_iff.mp (dU (aG af ak [.l af ak] rfl h1) (bq ak av [.q az aK,.l af av] rfl e (Y4 k (l.filter λb=> !b==a) (bx h1 h))));rw[(Lo.mpr h4)]at e;rw[d0];refine⟨λhm=> ?_,ih l h (dU (aG af ak [.e az aK] rfl e) (aG ak af [.q az aK] rfl e))⟩;have:=h4 a hm;simp at this
variable{t e:Expr}{ts:List Expr}
section
variable{st:ah}{I:aT}{aa:aO}
abbrev xl(pe:Env)(line:Nat):Expr->Option Str:=fun
 |.Name id pos=>if pe.kindOf id==some .local && pos.line==line then some id else none
 |_=>none
def Y8{f:Expr->Option Str}{l:List Expr}:(l.filterMap f).length=l.length->∀(j:Nat) (t:Expr),l[j]? =some t->∃m,f t=some m/\(l.filterMap f)[j]? =some m:=by
 induction l with
 |nil=>intro _ j t h;simp at h
 |cons a l ih=>
  intro e j t h;have hle:=List.length_filterMap_le f l;rw[List.filterMap_cons]at e⊢;cases q:f a with
  |none=>rw[q]at e;exact absurd (bx (lD e.symm) hle) (Nat.not_succ_le_self _)
  |some m=>
   rw[q]at e;rw[Nat.add_right_cancel_iff]at e;cases j with
   |zero=>simp at h;subst h;exact⟨m,q,by simp⟩
   |succ j=>
    obtain⟨m',h1,h2⟩:=ih e j t (by assumption);exact⟨m',h1,by simpa using h2⟩
def Y9(h:isTup t=false)(h2:cl t≠.qM):swappedStores [t] e pe=pure none:=by
 cases t<;>first|exact @rfl _ (pure none)|exact cu h|exact(h2 rfl).elim
def Y'(h:isTup e=false):swappedStores [.Tuple ts k p] e pe=pure none:=by
 cases e<;>first|exact @rfl _ (pure none)|exact cu h
structure xm(pe:Env)(ts:List Expr)(ns:List Str):Prop where
 len:ns.length=ts.length
 nodup:ns.Nodup
 names:∀(j:Nat) (t:Expr),ts[j]? =some t->∃m q,t= .Name m q/\ns[j]? =some m
 ab:∀m∈ns,pe.kindOf m=some .local
def Lp{m:Str}(h:xl pe l t=some m):pe.kindOf m=some .local/\∃q,t= .Name m q:=by
 cases t with
 |Name id q=>
  by_cases hc:(pe.kindOf id==some .local && q.line==l)=true
  .rw[<-bF ((if_pos hc).symm.trans h)];exact⟨beq_iff_eq.mp (lQ.mp hc).1,_,rfl⟩
  .exact noNS ((if_neg hc).symm.trans h)
 |_=>exact noNS h
def Za(h4:(ts.filterMap (xl pe l)).length=ts.length)(h5:(ts.filterMap (xl pe l)).eraseDups.length=(ts.filterMap (xl pe l)).length):xm pe ts (ts.filterMap (xl pe l)) where
 len:=h4
 nodup:=Y7 _ _ (bG _) h5
 names j t hj:=by
  obtain⟨m,h6,h7⟩:=Y8 h4 j t hj;obtain⟨q,e⟩:=(Lp h6).2;exact⟨m,q,e,h7⟩
 ab m hm:=by
  obtain⟨t,h6,h7⟩:=Zb.mp hm;exact(Lp h7).1
def xn{a b:Sem α}{c:Bool}{x:Sem α}(e:x=(if c then a else b))(h1:c=true->x=a->C)(h2:c=false->x=b->C):C:=by
 cases c
 .exact h2 rfl e
 .exact h1 rfl e
def Zc{vs:List Expr}{k':Nat}{p':Pos}(Zd:vs.all (constantsAlone 8)=false)(k0:swappedStores [.Tuple ts k p] (.Tuple vs k' p') pe=pure none->C)
 (k1:∀ns,swappedStores [.Tuple ts k p] (.Tuple vs k' p') pe=pure (some ns)->xm pe ts ns->C):C:=by
 refine xn (x:=swappedStores _ _ pe) rfl (λY=>k0) λh1 e1=>xn e1 (λY=>k0) λh2 e2=>xn e2 (λY=>k0) λh3 e3=>xn e3 (λY=>k0) λh4 e4=>xn e4 (λh=> ?_) λh5 e5=> ?_
 .rw[Zd]at h;exact cu h
 .refine k1 _ e5 ?_;simp-iota only[z9,bne_eq_false_iff_eq]at h3;exact Za h3.1 h3.2
def Ze(ht:cl t≠.qM)(ok:n5 t e=true)(k0:swappedStores [t] e pe=pure none->C)
 (k1:∀ts k p vs k' p' ns,t= .Tuple ts k p->e= .Tuple vs k' p'->swappedStores [t] e pe=pure (some ns)->xm pe ts ns->C):C:=by
 cases h:isTup t with
 |false=>exact k0 (Y9 h ht)
 |true=>
  refine DS h λts k p e1=> ?_;clear ht;subst e1;cases h':isTup e with
  |false=>exact k0 (Y' h')
  |true=>
   refine DS h' λvs k' p' e2=> ?_;subst e2;refine Zc ?_ k0 λns=>k1 ts k p vs k' p' ns rfl rfl;obtain⟨x,hx,hn⟩:=Sa.mp (show vs.any yX=true from ok);rw[List.all_eq_false];exact⟨x,hx,by rw[Y3 hn];decide⟩
def Lq(h:pn e=true){t:Option Expr}:swapsWith e t line pe=pure false:=by
 cases e<;>first|exact @rfl _ (pure false)|exact cu h
def Zf(c:Ctx F mg mb I n A aa pe)(S:ar F μ st s)(fd:bh F μ st.length s.heap aa pe){ns:List Str}{xs:List V}{us:List ai}(sw:xm pe ts ns)
 (h:jh (ji F.P I 2) aa ts xs st=some (ax,U)) (hv:aJ μ.ρ st.length s.heap xs us) (P:gx F μ st s U aa pe .next ax Q):
 aq F.m A (do pW (ns.reverse.map λn=>bindName pe n) us.reverse;pure AJ) Q E s:=by
 obtain⟨uW,e,Et⟩:=Ln (λY Y Y Y=>rfl) sw.names sw.len.symm h;clear h;subst e;obtain⟨Zg,Lr⟩:=YX uW;refine(YW (ns:=ns.reverse) (vs:=xs.reverse) (aj:=aa.aj) (λm hm=>Zg m (xj.mp hm)) (by simp[Lr])).elim λv2 Ls=> ?_;have uX:=λm hm=>
  have mP:=xj.mp hm
  (Et m mP).elim id λq=>by have:=c.fs.cell m q;rw[sw.ab m mP]at this;cases this
 refine wB (YS S c.fs fd uX Ls hv.reverse λs3 S3 T3 pM=>aF ?_);refine P μ s3 .next S3 T3 (pM.congr λm=> ?_) .next;rw[Ll sw.nodup uW m,Ll ((Y2 _).nodup_iff.mpr sw.nodup) Ls m,YZ sw.nodup Lr m]
def Zh(c:Ctx F mg mb I n A aa pe)(S:ar F μ st s)(fd:bh F μ st.length s.heap aa pe){ns:List Str}(sw:xm pe ts ns)(x:VR μ.ρ st.length s.heap v u)
 (h:(bd (jJ v) λxs=>if xs.length=ts.length then jh (ji F.P I 2) aa ts xs else er) st=some (ax,U)) (P:gx F μ st s U aa pe .next ax Q):
 aq F.m A (do let items <-unpackItems u ns.length none;pW (ns.reverse.map λn=>bindName pe n) items.reverse;pure AJ) Q E s:=by
 refine bc h λxs au h1 h2=> ?_;clear h;obtain⟨hlen,h2⟩:=if_some h2;have fin:∀{vs:List ai} {h':Heap},uF s.heap.objs.size s.heap h'->aJ μ.ρ st.length s.heap xs vs->st=au->aq F.m A (do pW (ns.reverse.map λn=>bindName pe n) vs.reverse;pure AJ) Q E {s with heap:=h'}:=λhx hv e=>by
  have kp:=Lb hx;exact Zf c (S.keeps (s':={s with heap:=_}) kp rfl rfl) (fd.cq (Step.of_keeps kp)) sw (e▸h2) (hv.mono (λY Y=>rfl) (bG _) (cM.of_keeps kp)) λbI s2 f S2 T2 cP hf=>P bI s2 f S2 ((Step.of_keeps kp).trans T2) cP hf
 cases v<;>first|exact noNS h1|skip
 case tup l=>
  obtain⟨e,e'⟩:=rt_some h1;refine x.out.elim λa q=>q.elim λvs q=> ?_;rw[q.1,show ns.length=(gG vs).size from(sw.len.trans hlen.symm).trans (e▸q.2.2.length.symm)];exact wB (wpAny_unpackItems_tuple c.R.handled q.2.1 λh' hx=>fin hx (e▸q.2.2) e')
 case ab l=>
  refine bc h1 λp aH h3 h4=> ?_;clear h1;obtain⟨e,h5,e5⟩:=getL_some h3;obtain⟨e6,e7⟩:=rt_some h4;cases e;obtain⟨vs,L,hv,_⟩:=fV S h5;rw[x.out.1,show ns.length=(gG vs).size from(sw.len.trans hlen.symm).trans (e6▸hv.length.symm)];exact wB (La c.R.handled L λh' hx=>fin hx (e6▸hv) (e5.trans e7))
def Zi(c:Ctx F mg mb I n A aa pe)(S:ar F μ st s)(fd:bh F μ st.length s.heap aa pe)(hc:pn e=true)(ok:n5 t e=true)
 (h:(bd (I.ev aa e) λv=>bd (ef F.P I aa t v) λaj=>rt (Fl.next,aj)) st=some ((fl,ax),U)) (P:gx F μ st s U aa pe fl ax Q):aq F.m A (exec (.Assign [t] e pos) pe) Q E s:=by
 refine bc h λv au h1 h2=>bc h2 λfG aH h3 h4=> ?_;clear h h2;obtain⟨q,e'⟩:=rt_some h4;cases q;subst e';refine Ze (pe:=pe) (YI h3) ok (λEG=> ?_) λts k p vs k' p' ns e1 e2 EG sw=> ?_
 .refine wpAny_Assign_stores (c.ev S fd h1 λbj s1 u S1 T1 bN x=> ?_) (Lq hc) EG;rw[Ez h3];exact xe c S1 bN x h3 λbI s2 S2 T2 cP=>P bI s2 .next S2 (T1.k9.trans T2) cP .next
 .clear hc ok;subst e1;subst e2;refine wB (mW (wB ?_));refine aF ?_;refine wB (c.ev S fd h1 λbj s1 u S1 T1 bN x=> ?_);rw[EG];show aq _ _ (do rule "assign.swapped-stores";let items <-unpackItems u ns.length none;pW (ns.reverse.map λn=>bindName pe n) items.reverse;pure AJ) _ _ _;exact wB (mS (Zh c S1 bN sw x h3 λbI s2 f S2 T2 cP hf=>P bI s2 f S2 (T1.k9.trans T2) cP hf))
end
end
section
section
variable{st:ah}{I:aT}{aa:aO}
def iB.inter(fs:iB aa pe):interactive pe=false:=by unfold interactive;rw[fs.kind];rfl
def Zj(c:Ctx F mg mb I n A aa pe)(S:ar F μ st s)(fd:bh F μ st.length s.heap aa pe){e:Expr}{fl:Fl}{ax:aw}(hc:pn e=true)
 (h:(bd (I.ev aa e) λY=>rt (Fl.next,aa.aj)) st=some ((fl,ax),U)) (P:gx F μ st s U aa pe fl ax Q):aq F.m A (exec (.Expr e pos) pe) Q E s:=by
 obtain⟨v,au,h1,h2⟩:=bd_some h;obtain⟨q,rfl⟩:=rt_some h2;cases q;exact wpAny_Expr_any (c.ev S fd h1 λbj s1 u S1 T1 bN x=>P bj s1 .next S1 T1.k9 bN .next) c.fs.inter (Lq hc)
def Zk(c:Ctx F mg mb I n A aa pe)(S:ar F μ st s)(fd:bh F μ st.length s.heap aa pe){t:Expr}{b o:List Stmt}{fl:Fl}{ax:aw}
 (h:(bd (I.b7 aa t) λc=>if c then I.cZ aa b else I.cZ aa o) st=some ((fl,ax),U)) (P:gx F μ st s U aa pe fl ax Q):aq F.m A (exec (.If t b o pos) pe) Q E s:=by
 obtain⟨v,au,h1,h2⟩:=bd_some h;refine wB (mW (wB (c.hT c.R0 S c.fs fd h1 λbj s1 S1 T1=> ?_)));have P1:=λbI s2 f S2 T2 cP hf=>P bI s2 f S2 (T1.k9.trans T2) cP hf;clear h1;cases v
 .exact c.hX c.R0 S1 c.fs (fd.cq T1) h2 P1
 .exact c.hX c.R0 S1 c.fs (fd.cq T1) h2 P1
def Zl(c:Ctx F mg mb I n A aa pe)(S:ar F μ st s)(fd:bh F μ st.length s.heap aa pe){fl:Fl}{ax:aw}
 (h:rt (Fl.ret .none,aa.aj) st=some ((fl,ax),U)) (P:gx F μ st s U aa pe fl ax Q):aq F.m A (exec (.Return none pos) pe) Q E s:=by
 obtain⟨q,rfl⟩:=rt_some h;cases q;exact wpAny_Return_none (P μ s _ S (Step.refl ..) fd (.ret .none))
def Zm(c:Ctx F mg mb I n A aa pe)(S:ar F μ st s)(fd:bh F μ st.length s.heap aa pe){e:Expr}{fl:Fl}{ax:aw}
 (h:(bd (I.ev aa e) λv=>rt (Fl.ret v,aa.aj)) st=some ((fl,ax),U)) (P:gx F μ st s U aa pe fl ax Q):aq F.m A (exec (.Return (some e) pos) pe) Q E s:=by
 obtain⟨v,au,h1,h2⟩:=bd_some h;obtain⟨q,rfl⟩:=rt_some h2;cases q;exact wpAny_Return_some (c.ev S fd h1 λbj s1 u S1 T1 bN x=>P bj s1 _ S1 T1.k9 bN (.ret x))
def gx.rt{fl EH:Fl}{ax:aw}(P:gx F μ st s U aa pe fl ax Q)(h:rt (EH,fG) au=some ((fl,ax),U)):gx F μ st s au aa pe EH fG Q:=by cases h;exact P
def Zn(c:Ctx F mg mb I n A aa pe)(S:ar F μ st s)(fd:bh F μ st.length s.heap aa pe){o i:Expr}{fl:Fl}{ax:aw}{Q:Flow->ao->Prop}
 (h:t5 I aa (.Subscript o i p) st=some ((fl,ax),U)) (P:gx F μ st s U aa pe fl ax Q):aq F.m A (exec (.Delete [.Subscript o i p] pos) pe) Q E s:=by
 refine bc h λov au h1 h2=>bc h2 λiv aH h3 h4=>bc h4 λd aQ h5 h6=>ub h6 λw hg h=>bc h λY b6 h7 h8=> ?_;clear h2 h4 h6;have P:=P.rt h8;clear h8;clear h;obtain⟨e0,hl,hs,e1⟩:=getDK_some h5;subst e1;obtain⟨_,e2⟩:=putO_some h7;subst e2;refine wpAny_Delete ?_;refine wB (wpAny_delete_Subscript (c.ev S fd h1 λbj s1 u S1 T1 bN x=>c.ev S1 bN h3 λbI s2 z S2 T2 cP y=> ?_));exact((T2.VR x).pL e0)▸Tz (Q:=λY s'=>aq F.m A (deleteEach [] pe) (λY dO=>Q .next dO) E s') S2 c.R1 hl hs hg y λgy s3 S3 T3=>(aF (P gy s3 .next S3 ((T1.trans T2).trans T3).k9 (cP.cq T3) .next))
structure WH(F:Fix)(pe:Env)(aa:aO)(I:aT)(t:Expr)(b:List Stmt)(cf:Mp)(N0:Nat)(h0:Heap)(fl:Fl)(ax:aw)(U:ah)(k:Nat)(aj:aw)(μ:Mp)(st:ah)(s:ao):Prop where
 h:pg (λaj=>I.b7 {aa with aj:=aj} t) (λaj=>I.cZ {aa with aj:=aj} b) k aj st=some ((fl,ax),U)
 S:ar F μ st s
 T:Step (fX aa pe) cf N0 h0 μ st.length s.heap
 fd:bh F μ st.length s.heap {aa with aj:=aj} pe
section
variable{t:Expr}{b:List Stmt}{aj:aw}{J:Nat->ao->Prop}
def Zo(J:Nat->ao->Prop)(turn:∀k s,J k s->aq F.m A (isTrue t pe (eval t pe)) (λc s=>if c=true then aq F.m A (execs b pe) (uV R J k) (notedBy F.m A pe λe s'=>R (.error e) s') s else R (.ok .next) s) (notedBy F.m A pe λe s'=>R (.error e) s') s)
 (k:Nat) (h:J k s):iV F.m A (.whileLoop t b [] pe) R s:=
 codeAny_whileLoop J (λk s h=>wpAny_mono (turn k s h) (λc s h=>by
  cases c with
  |true=>exact h
  |false=>exact aF h) λY Y h=>h) k h
def Zp(c:Ctx F mg mb I n A aa pe)(H:WH F pe aa I t b cf N0 h0 fl ax U (k+1) aj μ st s)(hN:∀aj μ st s,WH F pe aa I t b cf N0 h0 fl ax U k aj μ st s->uV R J (k+1) .next s)(P:ED F pe aa cf N0 h0 fl ax U λf s=>R (.ok f) s):
 aq F.m A (isTrue t pe (eval t pe)) (λc s=>if c=true then aq F.m A (execs b pe) (uV R J (k+1)) E s else R (.ok .next) s) E s:=by
 obtain⟨h,S1,T1,bN⟩:=H;refine bc h λv aH h2 h3=> ?_;clear h;refine c.hT c.R0 S1 (c.aj aj).fs bN h2 λbI s2 S2 T2=> ?_;have EI:=T1.trans T2.k9;clear h2;cases v with
 |false=>
  obtain⟨q,e⟩:=rt_some h3;cases q;subst e;exact P bI s2 .next S2 EI (bN.cq T2) .next
 |true=>
  refine bc h3 λr aQ h4 h5=> ?_;refine c.hX c.R0 S2 (c.aj aj).fs (bN.cq T2) h4 λgy s3 f S3 T3 pM hf=>hf.el (λe1 e2=> ?_) λv u e1 e2 hv=> ?_
  .rw[e1]at h5;rw[e2];exact hN r.2 gy aQ s3 ⟨h5,S3,EI.trans T3,pM⟩
  .clear h3 hN;rw[e1]at h5;rw[e2];obtain⟨q,e⟩:=rt_some h5;subst e;exact P gy s3 _ S3 (EI.trans T3) ((show r.2=ax from congrArg (·.2) q)▸pM) ((show fl= .ret v from(congrArg (·.1) q).symm.trans e1)▸ .ret hv)
end
def Zq(c:Ctx F mg mb I n A aa pe)(S:ar F μ st s)(fd:bh F μ st.length s.heap aa pe){t:Expr}{b:List Stmt}{fl:Fl}{ax:aw}
 (h:pg (λaj=>I.b7 {aa with aj:=aj} t) (λaj=>I.cZ {aa with aj:=aj} b) k0 aa.aj st=some ((fl,ax),U)) (P:gx F μ st s U aa pe fl ax Q):
 aq F.m A (exec (.While t b [] pos) pe) Q E s:=by
 refine wpAny_While (Zo (λk s1=>∃fG bj au,WH F pe aa I t b μ st.length s.heap fl ax U k fG bj au s1) (λk s1 H=> ?_) k0 ⟨aa.aj,μ,st,h,S,Step.refl ..,fd⟩);refine H.elim λfG H=>H.elim λbj H=>H.elim λau H=> ?_;cases k with
 |zero=>exact noNS H.h
 |succ k=>exact Zp c H (λaj μ st s H=>⟨k,oB k,aj,μ,st,H⟩) P
def EJ{iter:Expr}(hI:Plain F I)(h:I.ev aa iter st=some (v,au))(x:ai):foldedSetIterable iter pe x=pure x:=by
 have r:(pure x:Sem ai)=pure x:=rfl;cases iter<;>first|exact r|(rw[hI.set]at h;cases h)
def Zr(c:Ctx F mg mb I n A aa pe)(S:ar F μ st s)(fd:bh F μ st.length s.heap aa pe){bP it:Expr}{b:List Stmt}{fl:Fl}{ax:aw}
 (h:(bd (bd (I.ev aa it) srcOf) λsrc=>forL src (λv aj=>bd (ef F.P I {aa with aj:=aj} bP v) λax=>I.cZ {aa with aj:=ax} b) bp 0 aa.aj) st=some ((fl,ax),U)) (P:gx F μ st s U aa pe fl ax Q):
 aq F.m A (exec (.For bP it b [] pos) pe) Q E s:=by
 refine bc h λsrc aH h1 h4=>bc h1 λv au h2 h3=> ?_;clear h h1;obtain⟨xi,ba⟩:=EC h3;subst xi;refine wpAny_For (c.ev S fd h2 λbj s1 u S1 T1 bN x=> ?_) (EJ c.hI h2);refine(EB c.O S1 x h3 λs2 as S2 kp oA io j=> ?_).2;obtain⟨hL,hC⟩:=bN.apart oA;exact Lk c ⟨oA,hL,hC⟩ (λxs e=>absurd e (ba xs)) ⟨h4,⟨S2,Step.of_keeps kp,bN.cq (Step.of_keeps (X:=cq) kp),io⟩,j⟩ λgy s3 f S3 T3 pM hf=>P gy s3 f S3 (T1.k9.trans T3) pM hf
end
end
variable{Q:ai→ao→Prop}{d:Nat}{g:c9}{acc:ai}
section
section
variable{st:ah}{I:aT}{aa:aO}
private def Zs{pe:Env}(f:(Str×NameKind)->List (Str×Addr)->Sem (ForInStep (List (Str×Addr))))(hf:∀n k acc,f (n,k) acc=if k== .free then(do let c <-cellOf pe n;pure (.yield ((n,c)::acc)))else pure (.yield acc)):
 ∀(names:List (Str×NameKind)) (acc:List (Str×Addr)),(∀m,(m,xo)∈names->∃c,pe.cells.lookup m=some c)->(∀m c,acc.lookup m=some c->pe.cells.lookup m=some c)->∃cl,forIn names acc f=pure cl/\(∀m c,cl.lookup m=some c->pe.cells.lookup m=some c)/\(∀m,(m,xo)∈names->(cl.lookup m).isSome=true)/\∀m,(acc.lookup m).isSome=true->(cl.lookup m).isSome=true:=by
 intro l0;induction l0 with
 |nil=>intro acc _ ha;exact⟨acc,rfl,ha,(λm hm=>by cases hm),λm h=>h⟩
 |cons q0 r ih=>
  intro acc h ha;obtain⟨m,k⟩:=q0;rw[Am,hf];by_cases hk:k= .free
  .subst hk;obtain⟨c,hc⟩:=h m dz;have pI:cellOf pe m=pure c:=by unfold cellOf;rw[hc]
   obtain⟨cl,h1,h2,h3,h4⟩:=ih ((m,c)::acc) (λk hk=>h k (dM _ hk)) (λk d AK=>by
    rw[oj]at AK;split at AK
    .rename_i e;cases AK;rw[beq_iff_eq.mp e];exact hc
    .exact ha k d AK)
   refine⟨cl, ?_,h2,λk hk=> ?_,λk hk=>h4 k ?_⟩
   .rw[pI];exact h1
   .rcases bU.mp hk with e|hk
    .cases e;exact h4 _ (by rw[oj,beq_self_eq_true];rfl)
    .exact h3 k hk
   .rw[oj];split
    .rfl
    .exact hk
  .obtain⟨cl,h1,h2,h3,h4⟩:=ih acc (λk hk=>h k (dM _ hk)) ha;refine⟨cl, ?_,h2,λk' fF=> ?_,h4⟩
   .rw[if_neg (by simpa using hk)];exact h1
   .clear h;rcases bU.mp fF with e|fF
    .cases e;exact absurd rfl hk
    .exact h3 k' fF
def Zt{pe:Env}(h:∀m,(m,xo)∈scope.names->∃c,pe.cells.lookup m=some c):
 ∃cl,closureFor scope pe=pure cl/\(∀m c,cl.lookup m=some c->pe.cells.lookup m=some c)/\∀m,(m,xo)∈scope.names->(cl.lookup m).isSome=true:=by
 obtain⟨cl,h1,h2,h3,_⟩:=Zs (pe:=pe) (λx acc=>if x.2== .free then(do let c <-cellOf pe x.1;pure (.yield ((x.1,c)::acc)))else pure (.yield acc)) (λY Y Y=>rfl) scope.names [] h (λm c e=>by cases e);refine⟨cl, ?_,h2,h3⟩;unfold closureFor
 first
  |(rfl)
  |(simp only[h1];rfl)
  |(show(forIn scope.names [] _ >>= _)=_)
def Lu{elt:Expr}{gens:List c9}{it:ai}(hg:gens[d]? =some g)(ha:g.is_async=0)
 (h0:iV F.m A (.compLoop (.ListComp elt gens scope pos) d it acc pe) R s)
 (h:aq F.m A (pyIter it) (λLv s'=>iV F.m A (.compLoop (.ListComp elt gens scope pos) d Lv acc pe) R s') (notedBy F.m A pe λx s'=>R (.error x) s') s):
 iV F.m A (.compStart (.ListComp elt gens scope pos) d it acc pe) R s:=by
 have uY:(clausesOf (.ListComp elt gens scope pos))[d]? =some g:=hg;refine codeAny_of_tree ?_;refine wpAny_notedAt ?_;unfold compStart;rw[uY];rw[Option.elim,ha];refine wB (zD (wpAny_ite ?_));split
 .first
   |exact wB (aF (aF (Lw rfl h0)))
   |exact aF (Lw rfl h0)
 .first
   |exact wB (mS (wB (mW (wB (wpAny_mono h (λLv s' h'=>aF (Lw rfl h')) λY Y x=>x)))))
   |(refine wB (mS ?_))
def Lx{as:List Addr}(j:stI μ N s.heap as i src)(h:Q (.ref (as.headD 0)) s):aq F.m A (pyIter (.ref (as.headD 0))) Q E s:=by
 cases src with
 |list l=>obtain⟨I,rfl,hl,hit⟩:=j;exact wpAny_pyIter_listiter hit h
 |dict l n ep=>obtain⟨I,rfl,hl,hit⟩:=j;exact wpAny_pyIter_keyiter hit h
 |items xs=>
  rcases j with⟨I,t,vs,rfl,ht,hv,hit⟩|⟨I,n,rfl,hx,hr⟩
  .exact wpAny_pyIter_tupleiter hit h
  .exact wpAny_pyIter_rangeiter hr h
 |enum xs=>
  obtain⟨hle,e,it,t,vs,old,rfl,ba,ht,hv,he,hit⟩:=j;exact wpAny_pyIter_enum he h
def Zu(c:Ctx F mg mb I n A aa pe){f:Expr->Bool->Sem (ForInStep Bool)}(hf:∀e b,f e b=if b=true then(do let ok <-isTrue e pe (eval e pe);pure (.yield ok))else pure (.yield b)):
 ∀{ifs:List Expr} {st U:ah} {μ:Mp} {s:ao} {b:Bool} {Q:Bool->ao->Prop},ar F μ st s->bh F μ st.length s.heap aa pe->tests I aa ifs st=some (b,U)->gu F μ st s U (Q b)->aq F.m A (forIn ifs true f) Q E s:=by
 intro ifs;induction ifs with
 |nil=>
  intro st U μ s b Q S fd h P;obtain⟨rfl,rfl⟩:=rt_some h;exact aF (P μ s S (Step.refl ..))
 |cons e r ih=>
  intro st U μ s b Q S fd h P;obtain⟨t,au,h1,h2⟩:=bd_some h;rw[Am,hf];refine wB (wB (c.hT c.R0 S c.fs fd h1 λbj s1 S1 T1=>aF ?_));clear h1;cases t with
  |true=>exact ih S1 (fd.cq T1) h2 (P.after T1)
  |false=>
   obtain⟨rfl,rfl⟩:=rt_some h2;have skip:∀(r:List Expr),aq F.m A (forIn r false f) Q E s1:=by
    intro r;induction r with
    |nil=>exact aF (P bj s1 S1 T1)
    |cons x r ih=>rw[Am,hf];exact wB (aF ih)
   exact skip r
abbrev AccAt(μ:Mp)(N:Nat)(h:Heap)(a:Addr)(xs:List V):Prop:=∃vs k,h.get? a=some (listOf (gG vs) k)/\aJ μ.ρ N h xs vs/\xs.length<=bH
def AccAt.step{h:Heap}{xs:List V}(x:AccAt μ N h a xs)(T:Step X μ N h aI N' h')(hX:¬X a)(gc:∀l,l<N->μ.σ l≠a):AccAt aI N' h' a xs:=x.imp λY h=>h.imp λY h=>⟨T.keep a _ h.1 hX λl hl e=>gc l hl e.symm,T.aJ h.2.1,h.2.2⟩
def AccAt.off{h:Heap}{xs:List V}(x:AccAt μ N h a xs):jS h [a]:=λb hb=>by
 rw[fH.mp hb];obtain⟨vs,k,g,_⟩:=x;exact⟨_,g,.inr (.inr ⟨"list",rfl,by decide,by decide,λq=>by cases q⟩)⟩
def Zv(S:ar F μ st s){xs:List V}(io:eD F μ st.length s.heap [a])(x:AccAt μ st.length s.heap a xs)(y:VR μ.ρ st.length s.heap v u)(hc:xs.length+1<=bH)
 (P:∀s',ar F μ st s'->Step (·∈[a]) μ st.length s.heap μ st.length s'.heap->AccAt μ st.length s'.heap a (xs++[v])->Q .none s'):aq F.m A (call (.builtin "list.append") [.ref a,u]) Q E s:=by
 obtain⟨vs,k,g,r,c⟩:=x;refine call_meets Jt ⟨_,g,rfl⟩ TG (TJ _ _) (TK _ vs.toArray k u (by rw[eI,r.length];exact bx c iU)) ⟨g, ?_⟩;have hm:dN (λx=>x.push u) (EK vs.toArray k)=EK (vs++[u]).toArray (k+1):=by simpa[EK]using(mapSeq_push vs.toArray k u none #[])
 have g':=kY (dN λx=>x.push u) g rfl;rw[hm]at g';have kp:∀b ob,b∉[a]->s.heap.get? b=some ob->(s.heap.update a (dN λx=>x.push u)).get? b=some ob:=λb ob hb e=>(kZ _ _ (λq=>hb (fH.mpr q.symm))).trans e;have T:Step (·∈[a]) μ st.length s.heap μ st.length (s.heap.update a (dN λx=>x.push u)):=Step.jr io.off kp λb hb=>by rw[fH.mp hb];exact⟨_,g'⟩
 exact P {s with heap:=s.heap.update a (dN λx=>x.push u),toks:=s.toks} (S.jr (s':={s with heap:=s.heap.update a (dN λx=>x.push u),toks:=s.toks}) io kp rfl rfl) T ⟨vs++[u],k+1,g',T.aJ (r.append (.cons y .nil)),by simpa using hc⟩
end
end
variable{body:V→aw→M (Fl×aw)}
section
section
variable{st:ah}{I:aT}{aa:aO}
def Zw{ns:List Str}:∀{vs:List V} {aj ax:aw},rE aj ns vs=some ax->∀m,m∉ns->cF ax m=cF aj m:=by
 induction ns with
 |nil=>intro vs aj ax h m _;cases vs with|nil=>cases h;rfl|cons _ _=>cases h
 |cons k ns ih=>
  intro vs aj ax h m hm;cases vs with
  |nil=>cases h
  |cons v vs=>
   obtain⟨v1,h1,h2⟩:=fg.mp h;rw[ih h2 m (λq=>hm (dM _ q)),ux h1 m,if_neg (λq=>hm (by rw[q];exact dz))]
def Zx{ts:List Expr}:∀{ns:List Str},namesOf ts=some ns->(∀(j:Nat) (t:Expr),ts[j]? =some t->∃m p,t= .Name m p/\ns[j]? =some m)/\ts.length=ns.length:=by
 induction ts with
 |nil=>intro ns h;rw[<-bF (show some []=some ns from h)];exact⟨λj t e=>(nomatch e),rfl⟩
 |cons t ts ih=>
  intro ns h;have q:=og t;have h:(match cl t with|.name n=>(namesOf ts).map (n::·)|_=>none)=some ns:=h;cases hc:cl t with
  |name n=>
   rw[hc]at h q;refine(gV.mp h).elim λr h1=>q.elim λp q=> ?_;obtain⟨i1,i2⟩:=ih h1.1;rw[<-h1.2];refine⟨λj t' e=> ?_,congrArg n8 i2⟩;cases j with
   |zero=>exact⟨n,p,(bF e).symm.trans q,rfl⟩
   |succ j=>exact i1 j t' e
  |_=>rw[hc]at h;exact noNS h
def all_none{aj:aw}{ns:List Str}(h:(ns.all λn=>(cF aj n).isNone)=true){m:Str}{w:V}(hw:cF aj m=some w):m∉ns:=λhm=>by have:=fE.mp h m hm;rw[hw]at this;exact cu this
def Zy{t:Expr}{ax:aw}(hf:freshT aa.aj t=true)(h:ef P I aa t v st=some (ax,U)):∀m w,cF aa.aj m=some w->cF ax m=some w:=by
 refine Lc (Z:=λt=>freshT aa.aj t=true->∀m w,cF aa.aj m=some w->cF ax m=some w) h (λnm p h hf m w hw=> ?_) (λY Y Y Y hf=>cu hf) (λY Y Y Y hf=>cu hf) (λts k p h hf m w hw=> ?_) hf
 .obtain⟨_,hv,_⟩:=bindN_some h;rw[ux hv m,if_neg (λe=>all_none (ns:=[nm]) hf hw (bV.mpr e))];exact hw
 .have hf:(match namesOf ts with|some ns=>ns.all λn=>(cF aa.aj n).isNone|none=>false)=true:=hf;cases hn:namesOf ts with
  |none=>rw[hn]at hf;exact cu hf
  |some ns=>
   rw[hn]at hf;obtain⟨h1,h2⟩:=Zx hn;refine bc h λxs au h3 h4=> ?_;obtain⟨h5,_,_⟩:=Ln (λY Y Y Y=>rfl) h1 h2 (if_some h4).2;rw[Zw h5 m (all_none hf hw)];exact hw
def Zz{src:Src}{body:V->M (List V)}:∀{k i:Nat} {xs ys:List V} {st U:ah},fB src body k i xs st=some (ys,U)->xs.length<=ys.length:=by
 intro l0;induction l0 with
 |zero=>intro _ _ _ _ _ h;cases h
 |succ k ih=>
  intro i xs ys st U h;obtain⟨x,au,h1,h2⟩:=bd_some h;clear h1;cases x with
  |none=>obtain⟨rfl,_⟩:=rt_some h2;exact bG _
  |some v=>
   obtain⟨r,aH,h3,h4⟩:=bd_some h2;obtain⟨_,aQ,h5,h6⟩:=bd_some h4;have:=ih h6;rw[bM]at this;exact bq af av [.l cI av] rfl this
abbrev emitC(P:eG)(I:aT)(elt:Expr)(ng:aO):List c9->M (List V)
 |[]=>bd (I.ev ng elt) λx=>rt [x]
 |g2::Ly=>bd (I.ev ng g2.iter) λs=>bd (srcOf s) λsrc=>fB src (clauses P I elt (g2::Ly) ng) bp 0 []
def ZA{I:aT}{elt:Expr}{rest:List c9}{aa:aO}{r:List V}(h:clauses P I elt (g::rest) aa v st=some (r,U)):
 freshT aa.aj g.target=true/\g.is_async=0/\(bd (ef P I aa g.target v) λaj=>bd (tests I {aa with aj:=aj} g.ifs) λt=>if t then emitC P I elt {aa with aj:=aj} rest else rt []) st=some (r,U):=by
 obtain⟨hc,h⟩:=if_some h;rw[eO,beq_iff_eq]at hc;refine⟨hc.1,hc.2, ?_⟩;cases rest<;>exact h
abbrev AL(elt:Expr)(gens:List c9)(scope:cj)(pos:Pos)(d:Nat)(it acc:ai)(aa:Env):Sem Fin:=
 match gens[d+1]? with
 |some g'=>do
  let x <-eval g'.iter aa
  standAt g'.iter.pos
  let x <-if g'.is_async !=0 then foldedIterable g'.iter x else foldedSetIterable g'.iter aa x
  let _ <-runOwn (.compStart (.ListComp elt gens scope pos) (d+1) (<-holding [x] (if g'.is_async !=0 then asyncIter x else pyIter x)) acc aa) aa
  again (.compLoop (.ListComp elt gens scope pos) d it acc aa)
 |none=>do
  (do let _ <-call (.builtin "list.append") [acc,<-eval elt aa]:Sem Unit)
  again (.compLoop (.ListComp elt gens scope pos) d it acc aa)
abbrev Lz(pe:Env)(e:Expr)(b:Bool):Sem (ForInStep Bool):=if b=true then(do let ok <-isTrue e pe (eval e pe);pure (.yield ok))else pure (.yield b)
abbrev LA(elt:Expr)(gens:List c9)(scope:cj)(pos:Pos)(g:c9)(d:Nat)(it acc:ai)(pe:Env):Option ai->Sem Fin
 |none=>pure (.done .next)
 |some v=>do
  rz g.target it v
  assign g.target pe v
  let ok <-forIn g.ifs true (Lz pe)
  if ok then AL elt gens scope pos d it acc pe else again (.compLoop (.ListComp elt gens scope pos) d it acc pe)
def ZC{elt:Expr}{gens:List c9}{scope:cj}{pos:Pos}{d:Nat}{it:ai}(hg:gens[d]? =some g)(EL:g.is_async=0):
 compTurn (.ListComp elt gens scope pos) d it acc pe=(standAt g.iter.pos >>= λY=>pyNext it >>= LA elt gens scope pos g d it acc pe):=by
 unfold compTurn;dsimp only;rw[hg];dsimp only;rw[EL];refine congrArg (bind (standAt _)) (funext λY=>congrArg (bind (pyNext _)) (funext λr=> ?_));cases r<;>rfl
structure TC(pe:Env)(as:List Addr)(a:Addr)(h0:Heap):Prop where
 fr:∀x∈as,h0.get? x=none
 L:pe.locals∉as
 C:∀n c,pe.cells.lookup n=some c->c∉as
 uZ:a∉as
 aL:a≠pe.locals
 aC:∀n c,pe.cells.lookup n=some c->c≠a
def TC.own{as:List Addr}{a:Addr}{h0:Heap}(c:TC pe as a h0):∀x∈as,¬fX aa pe x:=λx ha q=>q.elim (λq=>c.L (q▸ha)) λq=>q.elim λm q=>c.C m x q.2 ha
def TC.LB{as:List Addr}{a:Addr}{h0:Heap}(c:TC pe as a h0):¬fX aa pe a:=λq=>q.elim c.aL λq=>q.elim λm q=>c.aC m a q.2 rfl
structure TI(F:Fix)(pe:Env)(aa:aO)(as:List Addr)(a:Addr)(cf:Mp)(N0:Nat)(h0:Heap)(aj:aw)(ys:List V)(μ:Mp)(st:ah)(s:ao):Prop where
 S:ar F μ st s
 T:Step (λb=>(fX aa pe b\/b=a)\/b∈as) cf N0 h0 μ st.length s.heap
 fd:bh F μ st.length s.heap {aa with aj:=aj} pe
 io:eD F μ st.length s.heap as
 ia:eD F μ st.length s.heap [a]
 ac:AccAt μ st.length s.heap a ys
section
variable{as:List Addr}{ys:List V}{aj:aw}
def TI.xg(c:TC pe as a h0)(B:TI F pe aa as a cf N0 h0 aj ys μ st s)(S:ar F μ st s')(T:Step (·∈as) μ st.length s.heap μ st.length s'.heap)(o:jS s'.heap as):TI F pe aa as a cf N0 h0 aj ys μ st s':=⟨S,B.T.trans (T.weaken λY Y Y q=>.inr q),B.fd.step T c.L c.C,⟨B.io.out,B.io.σ,o⟩,B.ia.step T λb hb q=>c.uZ (fH.mp hb▸q),B.ac.step T c.uZ λl hl=>B.ia.σ a (bV.mpr rfl) l hl⟩
def TI.own(c:TC pe as a h0)(B:TI F pe aa as a cf N0 h0 aj ys μ st s)(S:ar F aI U s')(T:Step X μ st.length s.heap aI U.length s'.heap)(hX:∀b,X b->fX aa pe b)(fd:bh F aI U.length s'.heap {aa with aj:=ax} pe):TI F pe aa as a cf N0 h0 ax ys aI U s':=⟨S,B.T.trans (T.weaken λb Y Y q=>.inl (.inl (hX b q))),fd,B.io.step T λx hx q=>c.own x hx (hX x q),B.ia.step T λb hb q=>c.LB (fH.mp hb▸hX b q),B.ac.step T (λq=>c.LB (hX a q)) λl hl=>B.ia.σ a (bV.mpr rfl) l hl⟩
def TI.emit{LD:List V}(c:TC pe as a h0)(B:TI F pe aa as a cf N0 h0 aj ys μ st s)(S:ar F aI U s')(T:Step (λb=>fX aa pe b\/b=a) μ st.length s.heap aI U.length s'.heap)(fd:bh F aI U.length s'.heap {aa with aj:=ax} pe)(ac:AccAt aI U.length s'.heap a LD):TI F pe aa as a cf N0 h0 ax LD aI U s':=by
 refine⟨S,B.T.trans (T.weaken λb Y Y q=>.inl q),fd,B.io.step T λx hx q=>q.elim (c.own x hx) λq=>c.uZ (q▸hx),⟨B.ia.out,λb hb l hl e=> ?_,ac.off⟩,ac⟩;rw[fH.mp hb]at e;obtain⟨o,ho,_⟩:=B.ia.off a (bV.mpr rfl);by_cases bY:l<st.length
 .rw[T.σ l bY]at e;exact B.ia.σ a (bV.mpr rfl) l bY e
 .have:=T.new l (CP bY) hl;rw[e,ho]at this;cases this
def TI.forget(B:TI F pe aa as a cf N0 h0 ax ys μ st s)(e:∀m w,cF aj m=some w->cF ax m=some w):TI F pe aa as a cf N0 h0 aj ys μ st s:=⟨B.S,B.T,B.fd.forget (aa:=aa) e,B.io,B.ia,B.ac⟩
abbrev AM(F:Fix)(pe:Env)(aa:aO)(a:Addr)(cf:Mp)(N0:Nat)(h0:Heap)(ys:List V)(st:ah)(Q:ao->Prop):Prop:=∀aI s',ar F aI st s'->Step (λb=>fX aa pe b\/b=a) cf N0 h0 aI st.length s'.heap->bh F aI st.length s'.heap aa pe->eD F aI st.length s'.heap [a]->AccAt aI st.length s'.heap a ys->Q s'
def TI.fin{Q:ao->Prop}(c:TC pe as a h0)(B:TI F pe aa as a cf N0 h0 aa.aj ys μ st s)(S:ar F μ st s')(kp:∀b o,b∉as->s.heap.get? b=some o->s'.heap.get? b=some o)(P:AM F pe aa a cf N0 h0 ys st Q):Q s':=by
 obtain⟨vs,kk,ga,ra,ca⟩:=B.ac;refine P μ s' S (B.T.xf B.io.off kp c.fr) (B.fd.but B.io.off kp c.L c.C) ⟨B.ia.out,B.ia.σ,λb hb=> ?_⟩ ⟨vs,kk,kp a _ c.uZ ga,ra.mono (λY Y=>rfl) (bG _) (wL B.io.off kp),ca⟩;rw[fH.mp hb];obtain⟨o,ho,iA⟩:=B.ia.off a (bV.mpr rfl);exact⟨o,kp a o c.uZ ho,iA⟩
end
abbrev LF(F:Fix)(mg mb:Str->Option ai)(A:bB)(I:aT)(n:Nat)(elt:Expr)(gens:List c9)(scope:cj)(pos:Pos)(rest:List c9)(d:Nat)(it:ai)(a:Addr)(pe:Env)(E:ai->ao->Prop):Prop:=
 ∀{ng:aO} {bj:Mp} {au aH:ah} {s1:ao} {pre r:List V} {R2:Fin->ao->Prop},Ctx F mg mb I n A ng pe->ar F bj au s1->bh F bj au.length s1.heap ng pe->eD F bj au.length s1.heap [a]->AccAt bj au.length s1.heap a pre->(pre++r).length<=bH->emitC F.P I elt ng rest au=some (r,aH)->(∀bI s2,ar F bI aH s2->Step (λb=>fX ng pe b\/b=a) bj au.length s1.heap bI aH.length s2.heap->bh F bI aH.length s2.heap ng pe->AccAt bI aH.length s2.heap a (pre++r)->R2 (.again (.compLoop (.ListComp elt gens scope pos) d it (.ref a) pe)) s2)->aq F.m A (AL elt gens scope pos d it (.ref a) pe) R2 E s1
section
variable{elt:Expr}{gens:List c9}{rest:List c9}{as:List Addr}{xs ys base:List V}
structure TH(F:Fix)(pe:Env)(aa:aO)(I:aT)(elt:Expr)(gs:List c9)(as:List Addr)(a:Addr)(cf:Mp)(N0:Nat)(h0:Heap)(base:List V)(src:Src)(ys:List V)(U:ah)(k i:Nat)(xs:List V)(μ:Mp)(st:ah)(s:ao):Prop where
 h:fB src (clauses F.P I elt gs aa) k i xs st=some (ys,U)
 B:TI F pe aa as a cf N0 h0 aa.aj (base++xs) μ st s
 j:stI μ st.length s.heap as i src
def ZD{R2:Fin->ao->Prop}(HE:LF F mg mb A I n elt gens scope pos rest d (.ref (as.headD 0)) a pe E)(c:Ctx F mg mb I n A aa pe)(C:TC pe as a h0)(ba:∀xs,src≠.enum xs)(fW:(base++ys).length<=bH)
 (H:TH F pe aa I elt (g::rest) as a cf N0 h0 base src ys U (k+1) i xs μ st s) (Pd:AM F pe aa a cf N0 h0 (base++ys) U (R2 (.done .next)))
 (Pk:∀xs μ st s,TH F pe aa I elt (g::rest) as a cf N0 h0 base src ys U k (i+1) xs μ st s->R2 (.again (.compLoop (.ListComp elt gens scope pos) d (.ref (as.headD 0)) (.ref a) pe)) s):
 aq F.m A (pyNext (.ref (as.headD 0)) >>= LA elt gens scope pos g d (.ref (as.headD 0)) (.ref a) pe) R2 E s:=by
 obtain⟨h,B,j⟩:=H;refine bc h λx aH h2 h3=> ?_;clear h;have xi:=Le h2;subst xi;refine wB ((Af c.O c.R.handled B.S B.io j h2 (λe s2 S2 kp=> ?_) λv e u s2 S2 T2 x m2=> ?_).2)
 .subst e;obtain⟨e,e'⟩:=rt_some h3;subst e';cases e;exact aF (B.fin C S2 kp Pd)
 .subst e;refine bc h3 λr aQ h4 h5=>bc h5 λY b6 h6 h7=> ?_;clear h3 h5;obtain⟨El,e⟩:=fits_some h6;subst e;obtain⟨ZE,_,h8⟩:=ZA h4;refine bc h8 λfG dE h9 xr=>bc xr λtt dF u0 LH=> ?_;clear h8 xr h4 h2;have hle:=Zz h7;have B2:=B.xg C S2 T2 (Lf m2);refine wB (J0 S2 B2.io m2 (λxs e=>absurd e (ba xs)) λs3 S3 T3 j3=> ?_);have B3:=B2.xg C S3 T3 (pN j3);refine wB (xe c S3 B3.fd (T3.VR x) h9 λAI s5 S5 T5 pX=> ?_);have B5:=B3.own (ax:=fG) C S5 T5 (λY q=>q) pX;have c5:=c.aj fG;refine wB (Zu c5 (f:=Lz pe) (λY Y=>rfl) S5 pX u0 λEE s6 S6 T6=> ?_);have B6:=B5.own C S6 T6 (λY q=>q.elim) (pX.cq T6);have j6:=(j3.step T5 C.own B3.io.σ).step T6 (λY Y q=>q) B5.io.σ;have LJ:=Zy ZE h9;clear u0;cases tt with
  |false=>
   obtain⟨e,e'⟩:=rt_some LH;subst e e';rw[gv]at h7;exact aF (Pk xs EE _ s6 ⟨h7,B6.forget LJ,j6⟩)
  |true=>exact HE c5 S6 B6.fd B6.ia B6.ac (by simp only[bM]at fW hle⊢;(exact mE (.add (.add af bo) cX) av [.l cI av,.l (.add bo cX) ak] rfl fW hle)) LH λZF s7 S7 T7 ZG ZH=>(Pk (xs++r) ZF _ s7 ⟨h7,(pV base xs r▸B6.emit C S7 T7 ZG ZH).forget LJ,j6.step T7 (λx hx q=>q.elim (C.own x hx) λq=>C.uZ (q▸hx)) B6.io.σ⟩)
def LK(hg:gens[d]? =some g)(EL:g.is_async=0)
 (HE:LF F mg mb A I n elt gens scope pos rest d (.ref (as.headD 0)) a pe (notedBy F.m A pe λe s'=>R (.error e) s'))
 (c:Ctx F mg mb I n A aa pe) (C:TC pe as a h0) (ba:∀xs,src≠.enum xs) (fW:(base++ys).length<=bH)
 (H:TH F pe aa I elt (g::rest) as a cf N0 h0 base src ys U k0 0 xs μ st s) (P:AM F pe aa a cf N0 h0 (base++ys) U (R (.ok .next))):
 iV F.m A (.compLoop (.ListComp elt gens scope pos) d (.ref (as.headD 0)) (.ref a) pe) R s:=by
 refine codeAny_loop rfl (λk s1=>∃i LL bj au,TH F pe aa I elt (g::rest) as a cf N0 h0 base src ys U k i LL bj au s1) ?_ k0 ⟨0,xs,μ,st,H⟩;intro k s1 hH;obtain⟨i,LL,bj,au,H⟩:=hH;refine wpAny_noted ?_;rw[ZC hg EL];refine b8 (mW ?_);cases k with
 |zero=>cases H.h
 |succ k=>exact ZD HE c C ba fW H P λxs μ st s H=>⟨rfl,k,oB k,i+1,xs,μ,st,H⟩
end
def ZI{elt:Expr}{gens:List c9}{scope:cj}{pos:Pos}(ek:∀g∈gens,g.is_async=0):∀(rest:List c9) (g:c9) (d:Nat),gens[d]? =some g->(∀j,gens[d+1+j]? =rest[j]?)->∀{aa:aO} {cf:Mp} {N0:Nat} {h0:Heap} {src:Src} {as:List Addr} {a:Addr} {k0:Nat} {xs ys base:List V} {st U:ah} {μ:Mp} {s:ao} {R:Result->ao->Prop} (c:Ctx F mg mb I n A aa pe) (C:TC pe as a h0) (ba:∀xs,src≠.enum xs) (fW:(base++ys).length<=bH)
  (H:TH F pe aa I elt (g::rest) as a cf N0 h0 base src ys U k0 0 xs μ st s) (P:AM F pe aa a cf N0 h0 (base++ys) U (R (.ok .next))),iV F.m A (.compLoop (.ListComp elt gens scope pos) d (.ref (as.headD 0)) (.ref a) pe) R s:=by
 intro rest;induction rest with
 |nil=>
  intro g d hg AN aa cf N0 h0 src as a k0 xs ys base st U μ s R c C ba fW H P;refine LK hg (ek g (jL hg)) ?_ c C ba fW H P;intro ng bj au aH s1 pre r R2 c1 S1 bN xv EM EN h1 P1;unfold AL;rw[(AN 0)];refine bc h1 λx aQ h2 h3=> ?_;obtain⟨e,e'⟩:=rt_some h3;subst e e';refine wB (wB (c1.ev S1 bN h2 λbI s2 u S2 T2 cP y=>wB ?_));refine Zv S2 (xv.step T2 λY Y q=>q) (EM.step T2 id λl hl=>xv.σ a (bV.mpr rfl) l hl) y (by simpa using EN) λs3 S3 T3 ZJ=>aF (aF ?_);exact P1 bI s3 S3 ((T2.weaken λY Y Y q=>q.elim).trans (T3.weaken λb Y Y q=>.inr (fH.mp q))) (cP.step T3 (λq=>C.aL (fH.mp q).symm) λn c hc q=>C.aC n c hc (fH.mp q)) ZJ
 |cons g2 Ly ih=>
  intro g d hg AN aa cf N0 h0 src as a k0 xs ys base st U μ s R c C ba fW H P;refine LK hg (ek g (jL hg)) ?_ c C ba fW H P;intro ng bj au aH s1 pre r R2 c1 S1 bN xv EM EN h1 P1;have hn:gens[d+1]? =some g2:=AN 0;have hz:=ek g2 (jL hn);unfold AL;rw[hn];simp only[hz];refine bc h1 λv aQ h2 h3=>bc h3 λajX b6 h4 h5=> ?_;obtain⟨e,ZL⟩:=EC h4;subst e;refine wB (c1.ev S1 bN h2 λbI s2 u S2 T2 cP x=>wB (mW ?_));rw[EJ c1.hI h2];show aq _ _ (holding [u] (pyIter u) >>= _) _ _ _;have EO:=xv.step T2 λY Y q=>q;refine wB (dD ((EB c1.O S2 x h4 λs3 as2 S3 kp EP ZM j3=> ?_).2));have T3:Step cq bI aQ.length s2.heap bI aQ.length s3.heap:=Step.of_keeps kp;obtain⟨uH,ZN⟩:=cP.apart EP;refine wB (wpAny_runOwn ?_);refine Lu hn hz ?_ (Lx j3 ?_)<;>
  exact ih g2 (d+1) hn (λj=>by have:=AN (j+1);rw[List.getElem?_cons_succ]at this;rw[<-this];congr 1;(exact dU (aG (.add (.add az aX) ak) (.add az aK) [] rfl) (aG (.add az aK) (.add (.add az aX) ak) [] rfl))) (xs:=[]) c1 ⟨EP,uH,ZN,(λhm=>by obtain⟨o,ho,_⟩:=EO.off a (bV.mpr rfl);rw[EP a hm]at ho;cases ho),C.aL,C.aC⟩ ZL EN ⟨h5,⟨S3,Step.of_keeps kp,(cP.cq T3),ZM,(EO.step T3 λY Y q=>q),(gv pre).symm▸((EM.step T2 id λl hl=>xv.σ a (bV.mpr rfl) l hl).step T3 id λl hl=>EO.σ a (bV.mpr rfl) l hl)⟩,j3⟩
   (λDZ s4 S4 T4 ZO LM AO=>aF (P1 DZ s4 S4 ((T2.weaken λY Y Y q=>q.elim).trans T4) ZO AO))
end
end
section
section
variable{st:ah}{I:aT}{aa:aO}
private def ZP{names:List (Str×NameKind)}{f:Str×NameKind->Bool}{l:aw}{m:Str}(h:cF ((names.filter f).map (λp=>(p.1,none))++l) m=some v):cF l m=some v/\∀k,(m,k)∈names->f (m,k)=false:=by
 induction names with
 |nil=>exact⟨h,λk hk=>by cases hk⟩
 |cons p r ih=>
  rw[u3]at h;split at h
  .rw[eP,u4,pf]at h;split at h
   .cases h
   .rename_i hp ba;obtain⟨h1,h2⟩:=ih h;refine⟨h1,λk hk=> ?_⟩;rcases bU.mp hk with e|hk
    .subst e;exact absurd rfl ba
    .exact h2 k hk
  .rename_i hp;obtain⟨h1,h2⟩:=ih h;refine⟨h1,λk hk=> ?_⟩;rcases bU.mp hk with e|hk
   .subst e;simpa using hp
   .exact h2 k hk
def ZQ{f:Str->Bool}{m:Str}{aj:aw}:cF (aj.filter λp=>f p.1) m=some v->cF aj m=some v/\f m=true:=by
 induction aj with
 |nil=>intro h;cases h
 |cons p r ih=>
  intro h;rw[u3]at h;split at h
  .rename_i hp;rw[pf]at h⊢;split at h
   .rename_i e;rw[if_pos e];exact⟨h,e▸hp⟩
   .rename_i e;rw[if_neg e];exact ih h
  .rename_i hp;obtain⟨h1,h2⟩:=ih h;refine⟨?_,h2⟩;rw[pf,if_neg]
   .exact h1
   .intro e;rw[e,h2]at hp;exact hp rfl
def LN{aj:aw}{m:Str}(h:cF (compEnv scope aj).aj m=some v):cF aj m=some v/\scope.names.lookup m=some .free:=by
 obtain⟨h1,_⟩:=ZP h;obtain⟨h2,h3⟩:=ZQ (f:=λm=>scope.names.lookup m==some .free) h1;exact⟨h2,beq_iff_eq.mp h3⟩
def LO(h:qP aa scope=true):scope.kind= .function/\(∀x∈scope.names,x.2= .local->scope.names.lookup x.1=some .local)/\(∀x∈scope.names,x.2≠.cell)/\∀x∈scope.names,x.2= .free->held aa x.1:=by
 unfold qP at h;rw[eO]at h;obtain⟨h1,h2⟩:=h;rw[fE]at h2;refine⟨beq_iff_eq.mp h1,λx hx e=> ?_,λx hx e=> ?_,λx hx e=> ?_⟩
 .have:=h2 x hx;rw[e]at this;exact beq_iff_eq.mp this
 .have:=h2 x hx;rw[e]at this;cases this
 .have:=h2 x hx;rw[e]at this;simp only[eO,wC]at this;exact this.2.elim (λq=>.inl (beq_iff_eq.mp q)) (λq=>.inr (beq_iff_eq.mp q))
def ar.adopt{ys:List V}(S:ar F μ st s)(io:eD F μ st.length s.heap [a])(ac:AccAt μ st.length s.heap a ys):ar F (μ.put st.length a a) (st++[.list ys]) s:=by
 have hlen:(st++[O.list ys]).length=st.length+1:=by simp
 refine⟨S.base,λl hl=> ?_,λl l' hl bY e=> ?_,λl ob e=> ?_,S.gens,S.os,S.fz.imp λY q=>⟨(oe S.t6).trans q.1,(congrArg s.heap.get? (Mp.ua S.t6)).trans q.2⟩⟩
 .rw[hlen]at hl;by_cases bY:l=st.length
  .simp only[Mp.put,bY];exact io.out a (by simp)
  .simp only[Mp.put,bY];exact S.out l (lL hl bY)
 .rw[hlen]at hl bY;simp only[Mp.put]at e;by_cases h1:l=st.length<;>by_cases h2:l'=st.length
  ·(exact dU (bq af av [.l az aK,.q av ak] rfl hl h2) (bq af av [.l az aK,.q av ak] rfl bY h1))
  .rw[if_pos h1,if_neg h2]at e;exact absurd e.symm (io.σ a (by simp) l' (lL bY h2))
  .rw[if_neg h1,if_pos h2]at e;exact absurd e (io.σ a (by simp) l (lL hl h1))
  .rw[if_neg h1,if_neg h2]at e;exact S.inj l l' (lL hl h1) (lL bY h2) e
 .rw[hlen];by_cases hl:l<st.length
  .rw[oe hl]at e;rw[Mp.ua hl];exact(S.obj l ob e).mono hl (λn hn=>Mp.t8 hn) (mM _) (cM.refl _) (λY g=>g) (λY Y Y Y g=>g)
  .have eg:l=st.length:=by
    have:=(b9.mp e).1;rw[hlen]at this;exact dU (aG af ak [.l az aK] rfl this) (aG af ak [.l af ak] rfl (fT.mp hl))
   clear hl;subst eg;rw[za (bG _)]at e;simp only[zb,v8,eW]at e;subst e;obtain⟨vs,k,g,r,c⟩:=ac;simpa[Mp.put]using(OR.zw r g (cM.refl _) c)
def Step.adopt{h:Heap}(T:Step X μ N h aI N' h')(hX:∀b o,h.get? b=some o->¬X b)(ha:h.get? a=none):Step cq μ N h (aI.put N' a a) (N'+1) h':=by
 refine⟨AP T.len,λl hl=> ?_,λl hl=> ?_,λl h1 h2=> ?_,λb o e Y hb=>T.keep b o e (hX b o e) hb,T.mJ,T.kQ⟩
 .rw[Mp.t8 (eM hl T.len)];exact T.ρ l hl
 .rw[Mp.ua (eM hl T.len)];exact T.σ l hl
 .by_cases hl:l=N'
  .simp only[Mp.put,hl];exact ha
  .simp only[Mp.put,hl];exact T.new l h1 (lL h2 hl)
end
end
variable{C:Addr}
section
section
variable{st:ah}{I:aT}{aa:aO}
def lookup_map2{g:Str->NameKind->NameKind}{names:List (Str×NameKind)}:∀{m:Str},(names.map λp=>(p.1,g p.1 p.2)).lookup m=(names.lookup m).map (g m):=by
 induction names with
 |nil=>intro _;exact rfl
 |cons q0 r ih=>
  intro m;obtain⟨k,v⟩:=q0;rw[oj,oj];cases h:m==k with
  |true=>rw[beq_iff_eq.mp h];rfl
  |false=>exact ih
def ZR{pe:Env}(m:Str):(relabel scope pe).names.lookup m=(scope.names.lookup m).map λk=>if(k== .free && pe.scope.kind== .function && pe.kindOf m==some .cell)then .cell else k:=by
 rw[<-(lookup_map2 (g:=λm k=>if(k== .free && pe.scope.kind== .function && pe.kindOf m==some .cell)then UY else k) (names:=scope.names) (m:=m))];congr 1;apply ES;intro p _;obtain⟨k,v⟩:=p;by_cases hc:(v==xo && pe.scope.kind== .function && pe.kindOf k==some .cell)=true
 .rw[if_pos hc,if_pos hc]
 .rw[if_neg hc,if_neg hc]
def ZS{cl:List (Str×Addr)}{h:Heap}(fs:iB aa pe)(fd:bh F μ N h aa pe)(ju:qP aa scope=true)(nh:∀m c,cl.lookup m=some c->pe.cells.lookup m=some c)
 (ET:∀m,(m,xo)∈scope.names->(cl.lookup m).isSome=true) (hC:h.get? C=none) (kp:∀b o,h.get? b=some o->h'.get? b=some o) (oC:∃m,h'.Ns C m) (pv:F.h₀.get? C=none) (gc:∀l,l<N->μ.σ l≠C):
 iB (compEnv scope aa.aj) (compEnvC scope cl C pe)/\bh F μ N h' (compEnv scope aa.aj) (compEnvC scope cl C pe):=by
 obtain⟨k1,k2,k3,k4⟩:=LO ju;have ko:∀m,(compEnvC scope cl C pe).kindOf m=(scope.names.lookup m).map λk=>if(k== .free && pe.scope.kind== .function && pe.kindOf m==some .cell)then .cell else k:=λm=>ZR m;have kk:∀m,kind (compEnv scope aa.aj) m=scope.names.lookup m:=λm=>rfl;refine⟨⟨k1,fs.glob,fs.bi,λm hm=> ?_,λm hm=> ?_,λm hm=> ?_,λm hm=> ?_⟩,⟨?_,λm hm=> ?_,pv,λm c hc=>fd.sm m c (nh m c hc),gc,λl m c hl hc=>fd.rj l m c hl (nh m c hc),λm c hc q=> ?_,λm m' c h1 h2=>fd.inj m m' c (nh m c h1) (nh m' c h2),λm c hc=> ?_⟩⟩
 .rw[kk]at hm;rw[ko,hm];rfl
 .rw[kk]at hm;rw[ko,hm];rfl
 .exact absurd rfl (k3 _ (mem_of_lookup hm))
 .rw[kk]at hm;rw[ko,hm];rw[Jo];split
  .exact .inr rfl
  .exact .inl rfl
 .obtain⟨m,hm⟩:=oC;refine⟨m,hm,λx v h1 h2=> ?_⟩;have:=(LN h2).2;rw[kk]at h1;rw[h1]at this;cases this
 .have C7:scope.names.lookup m=some .free:=by
   rcases hm with q|q
   .exact absurd rfl (k3 _ (mem_of_lookup q))
   .exact q
  have pY:=mem_of_lookup C7;obtain⟨c,x,hc,⟨oc,pF,pG⟩,hv⟩:=fd.cell m (k4 _ pY rfl);obtain⟨c',jk⟩:=mV.mp (ET m pY);have:=nh m c' jk;rw[hc]at this;cases this;exact⟨c,x,jk,⟨oc,kp _ _ pF,pG⟩,λv ZT=>(hv v (LN ZT).1).imp λY h=>⟨h.1,h.2.mono (λY Y=>rfl) (bG _) (cM.of_keeps kp)⟩⟩
 .obtain⟨o,ho⟩:=fd.has m c (nh m c hc);have q':c=C:=q;rw[q',hC]at ho;cases ho
 .obtain⟨o,ho⟩:=fd.has m c (nh m c hc);exact⟨o,kp _ _ ho⟩
def ZU{rest:List c9}(hz:g.is_async=0):firstAsync (g::rest)=false:=by
 obtain⟨t,i,f,a⟩:=g;subst hz;rfl
def ZV{rest:List c9}:firstIter (g::rest) pe=eval g.iter pe:=by obtain⟨t,i,f,a⟩:=g;rfl
def LP(c:Ctx F mg mb I n A aa pe)(S:ar F μ st s)(fd:bh F μ st.length s.heap aa pe){elt:Expr}{gens:List c9}{scope:cj}{pos:Pos}{use:Option (ai->Sem Unit)}
 (h:comp F.P I aa elt gens scope st=some (v,U))
 (P:∀aI s' u C,ar F aI U s'->Step cq μ st.length s.heap aI U.length s'.heap->VR aI.ρ U.length s'.heap v u->s.heap.get? C=none->(∃m,s'.heap.Ns C m)->F.h₀.get? C=none->(∀l,l<U.length->aI.σ l≠C)->compPost F.m A E use Q u C (.ok .next) s'):
 aq F.m A (comprehension (.ListComp elt gens scope pos) scope pe (firstIterPos gens pos) (newList []) (firstAsync gens) (firstIter gens pe) use) Q E s:=by
 cases gens with
 |nil=>cases h
 |cons g rest=>
  have h':(if !(qP aa scope && (g::rest).all (λg=>g.is_async==0))then er else bd (I.ev aa g.iter) λs=>bd (srcOf s) λsrc=>
   bd (fB src (clauses F.P I elt (g::rest) (compEnv scope aa.aj)) bp 0 []) λxs=>cg xs) st=some (v,U):=h
  clear h;split at h'
  .cases h'
  rename_i hc;simp only[uT,Bool.not_eq_false,eO]at hc;obtain⟨ju,ek⟩:=hc;have LR:∀g'∈g::rest,g'.is_async=0:=λg' uY=>beq_iff_eq.mp (fE.mp ek g' uY);obtain⟨k1,k2,k3,k4⟩:=LO ju;obtain⟨w,au,h1,h2⟩:=bd_some h';obtain⟨src,aH,h3,h4⟩:=bd_some h2;obtain⟨rfl,ba⟩:=EC h3;obtain⟨ys,aQ,h5,h6⟩:=bd_some h4;obtain⟨fW,rfl,rfl⟩:=newL_some h6;obtain⟨cl,ZW,nh,ET⟩:=Zt (scope:=scope) (pe:=pe) λm hm=>(fd.cell m (k4 _ hm rfl)).imp λY h=>h.elim λY h=>h.1;have hz:g.is_async=0:=LR g dz;rw[ZU hz];refine wpAny_comprehension_free (g:=g) (gs:=rest) rfl (λx=>EJ c.hI h1 x) ZW k1 k2 ?_;rw[ZV];refine c.ev S fd h1 λbj s1 u S1 T1 bN x=>(EB c.O S1 x h3 λs2 as S2 kp oA io j=> ?_).2;refine Ac (wpAny_newFunctionEnv k3 (by intro y hy;simp at hy) (λh4 oC EU=> ?_) k1);have Az:(s2.heap.push {cls:=.type "list",data:=.seq ([]:List ai).toArray}).objs.size=s2.heap.objs.size+1:=sC ..;rw[Az]at oC EU;rw[Az];have aC:s2.heap.objs.size≠s2.heap.objs.size+1:=by exact HY [.q af az] rfl
  have xx:∀b o,s2.heap.get? b=some o->h4.get? b=some o:=λb o e=>EU.extBut b o (eN (Ej (eQ e))) (cS _ (cS _ e));have jo:h4.get? s2.heap.objs.size=some (EK ([]:List ai).toArray 0):=EU.extBut _ _ aC (cS _ (dX _ rfl));generalize EV:({heap:=h4,gens:=s2.gens,drawn:=s2.drawn,toks:=s2.toks+([]:List (Str×ai)).length,os:=s2.os}:ao)=s4;have eh:s4.heap=h4:=by rw[<-EV]
  have S4:ar F bj au s4:=S2.keeps (by rw[eh];exact xx) (by rw[<-EV]) (by rw[<-EV]);have na:∀x,s2.heap.objs.size<=x->s2.heap.get? x=none:=λx hx=>ui hx;have LS:∀x,s2.heap.objs.size<=x->F.h₀.get? x=none:=λx hx=>by
   cases q:F.h₀.get? x with
   |none=>rfl
   |some o=>have:=S2.base _ _ q;rw[na x hx]at this;cases this
  have zX:∀x,s2.heap.objs.size<=x->∀l,l<au.length->bj.σ l≠x:=λx hx l hl e=>by
   obtain⟨o,ho,_⟩:=S2.payload hl;rw[e,na x hx]at ho;cases ho
  have n1:∀x,s2.heap.objs.size<=x->s1.heap.get? x=none:=λx hx=>by
   cases q:s1.heap.get? x with
   |none=>rfl
   |some o=>have:=kp _ _ q;rw[na x hx]at this;cases this
  have cP:=bN.cq (Step.of_keeps (X:=cq) kp);obtain⟨ZX,ZY⟩:=ZS (C:=s2.heap.objs.size+1) (h':=s4.heap) c.fs cP ju nh ET (na _ (by exact a9 af az [] rfl)) (by rw[eh];exact xx) ⟨_,by rw[eh];exact oC⟩ (LS _ (by exact a9 af az [] rfl)) (zX _ (by exact a9 af az [] rfl));have ZZ:=io.step (Step.of_keeps (X:=cq) (show∀b o,s2.heap.get? b=some o->s4.heap.get? b=some o by rw[eh];exact xx)) (λY Y q=>q);have j4:=j.step (Step.of_keeps (X:=cq) (show∀b o,s2.heap.get? b=some o->s4.heap.get? b=some o by rw[eh];exact xx)) (λY Y q=>q) io.σ;have AO:AccAt bj au.length s4.heap s2.heap.objs.size ([]++[]):=⟨[],0,by rw[eh];exact jo,.nil,dJ _⟩;have LM:eD F bj au.length s4.heap [s2.heap.objs.size]:=EA (s':=s4) S2 (λx hx=>by rw[fH.mp hx];exact na _ (bG _)) AO.off;have LU:∀x,s2.heap.objs.size<=x->x∉as:=λx hx hm=>by obtain⟨o,ho,_⟩:=io.off x hm;rw[na x hx]at ho;cases ho
  obtain⟨_,Z0⟩:=bN.apart oA;have cC:Ctx F mg mb I n A (compEnv scope aa.aj) (compEnvC scope cl (s2.heap.objs.size+1) pe):={c with fs:=ZX};have T4:Step (λb=>(fX (compEnv scope aa.aj) (compEnvC scope cl (s2.heap.objs.size+1) pe) b\/b=s2.heap.objs.size)\/b∈as) bj au.length s1.heap bj au.length s4.heap:=Step.of_keeps λb o e=>by rw[eh];exact xx b o (kp b o e)
  have hX:∀b o,s1.heap.get? b=some o->¬(fX (compEnv scope aa.aj) (compEnvC scope cl (s2.heap.objs.size+1) pe) b\/b=s2.heap.objs.size):=λb o e q=>by
   rcases q with(q|⟨m,q,_⟩)|q
   .have q':b=s2.heap.objs.size+1:=q;rw[q',n1 _ (by exact a9 af az [] rfl)]at e;cases e
   .exact absurd rfl (k3 _ (mem_of_lookup (show scope.names.lookup m=some .cell from q)))
   .rw[q,n1 _ (bG _)]at e;cases e
  have C0:TC (compEnvC scope cl (s2.heap.objs.size+1) pe) as s2.heap.objs.size s1.heap:=⟨oA,LU _ (mM _),λm x hx=>Z0 m x (nh m x hx),LU _ (bG _),aC,λm x hx q=>by obtain⟨o,ho⟩:=cP.has m x (nh m x hx);rw[q,na _ (bG _)]at ho;cases ho⟩;have lp:=ZI (pos:=pos) (scope:=scope) LR rest g 0 rfl (λj=>by simp[Nat.add_comm]) (R:=compPost F.m A E use Q (.ref s2.heap.objs.size) (s2.heap.objs.size+1)) cC C0 ba (base:=[]) (by simpa using fW) ⟨h5,⟨S4,T4,ZY,ZZ,LM,AO⟩,j4⟩ λAI s5 S5 T5 pX Z1 Z2=> ?_
  .exact Lu rfl hz lp (Lx j4 lp)
  .have S6:=S5.adopt Z1 (by simpa using Z2);have T6:=T5.adopt hX (n1 _ (bG _));have hlen:(aQ++[O.list ys]).length=aQ.length+1:=by simp
   refine P _ s5 (.ref s2.heap.objs.size) _ S6 (by rw[hlen];exact T1.trans T6) ?_ ?_ ?_ (LS _ (by exact a9 af az [] rfl)) λl hl=> ?_
   .have:VR (AI.put aQ.length s2.heap.objs.size s2.heap.objs.size).ρ (aQ++[O.list ys]).length s5.heap (.ab aQ.length) (.ref ((AI.put aQ.length s2.heap.objs.size s2.heap.objs.size).ρ aQ.length)):=.ab (by simp);simpa[Mp.put]using this
   .cases q:s.heap.get? (s2.heap.objs.size+1)with
    |none=>rfl
    |some o=>obtain⟨o',fY⟩:=T1.mJ _ _ q;rw[n1 _ (by exact a9 af az [] rfl)]at fY;cases fY
   .obtain⟨m,hm,_⟩:=pX.ns;exact⟨m,hm⟩
   .rw[hlen]at hl;by_cases bY:l=aQ.length
    .simp only[Mp.put,bY,if_true];exact aC
    .simp only[Mp.put,bY,if_false];exact pX.σ l (lL hl bY)
end
end
section
variable{elt:Expr}{gens:List c9}
section
variable{st:ah}{I:aT}{aa:aO}
def LW{h:Heap}(oC:∃m,h.Ns C m)(pv:F.h₀.get? C=none)(gc:∀l,l<N->μ.σ l≠C):eD F μ N h [C]:=⟨λa ha=>by rw[fH.mp ha];exact pv,λa ha l hl=>by rw[fH.mp ha];exact gc l hl,λa ha=>by rw[fH.mp ha];exact Dy oC.choose_spec⟩
def LX{h:Heap}(hs:uE C h h'):∀b o,b∉[C]->h.get? b=some o->h'.get? b=some o:=λb o hb e=>(hs.2 b λq=>hb (fH.mpr q)).trans e
def Z3(c:Ctx F mg mb I n A aa pe)(S:ar F μ st s)(fd:bh F μ st.length s.heap aa pe)
 (h:comp F.P I aa elt gens scope st=some (v,U)) (P:aR F μ st s U v Q):aq F.m A (eval (.ListComp elt gens scope pos) pe) Q E s:=by
 refine LP (use:=none) c S fd h λbj s1 u C S1 T1 x hC oC pv gc=> ?_;obtain⟨m,hm⟩:=oC;refine⟨m,hm,λh' hs=> ?_⟩;have io:=LW (F:=F) ⟨m,hm⟩ pv gc;have kp:=LX hs;have S2:ar F bj U {s1 with heap:=h'}:=S1.jr io kp rfl rfl;exact P bj {s1 with heap:=h'} u S2 (Step.xf (as:=[C]) (T1.weaken λY Y Y q=>q.elim) io.off kp λa ha=>by rw[fH.mp ha];exact hC) (x.mono (λY Y=>rfl) (bG _) (wL io.off kp))
def Z4(c:Ctx F mg mb I n A aa pe)(S:ar F μ st s)(fd:bh F μ st.length s.heap aa pe){use:ai->Sem Unit}{Q:Unit->ao->Prop}
 (h:comp F.P I aa elt gens scope st=some (v,au))
 (hu:∀{bj:Mp} {s1:ao} {u:ai} {Q1:Unit->ao->Prop},ar F bj au s1->bh F bj au.length s1.heap aa pe->VR bj.ρ au.length s1.heap v u->uU F bj au s1 U aa pe ax (Q1 ())->aq F.m A (use u) Q1 E s1)
 (P:uU F μ st s U aa pe ax (Q ())):aq F.m A (evalThenUse (.ListComp elt gens scope pos) pe use) Q E s:=by
 refine wB (LP (use:=some use) c S fd h λbj s1 u C S1 T1 x hC oC pv gc=> ?_);refine hu (Q1:=λY xa=>∃m,xa.heap.Ns C m/\∀h',uE C xa.heap h'->aq F.m A (pure ()) Q E {xa with heap:=h'}) S1 (fd.cq T1) x λbI s2 S2 T2 cP=> ?_;have Z5:¬fX aa pe C:=λq=>by
  rcases q with q|⟨m,_,q⟩
  .obtain⟨m,⟨o,es,ep,ho,_⟩,_⟩:=fd.ns;rw[<-q,hC]at ho;cases ho
  .obtain⟨o,ho⟩:=fd.has m C q;rw[hC]at ho;cases ho
 obtain⟨m,o,es,ep,ho,hd,hk,hf⟩:=oC;have jM:=T2.keep C o ho Z5 λl hl e=>gc l hl e.symm;have Z6:∀l,l<U.length->bI.σ l≠C:=λl hl e=>by
  by_cases bY:l<au.length
  .rw[T2.σ l bY]at e;exact gc l bY e
  .have:=T2.new l (aG af ak [.l af ak] rfl (fT.mp bY)) hl;rw[e,ho]at this;cases this
 refine⟨m,⟨o,es,ep,jM,hd,hk,hf⟩,λh' hs=>aF ?_⟩;have io:=LW (F:=F) (μ:=bI) (N:=U.length) ⟨m,o,es,ep,jM,hd,hk,hf⟩ pv Z6;have kp:=LX hs;have S3:ar F bI U {s2 with heap:=h'}:=S2.jr io kp rfl rfl;obtain⟨hL,Z7⟩:=fd.apart (as:=[C]) λa ha=>by rw[fH.mp ha];exact hC
 exact P bI {s2 with heap:=h'} S3 (Step.xf (as:=[C]) ((T1.k9.trans T2).weaken λY Y Y q=>.inl q) io.off kp λa ha=>by rw[fH.mp ha];exact hC) (cP.but io.off kp hL Z7)
def Z8{t:Expr}:∃b,swapsWithSole [t] (.ListComp elt gens scope pos) line pe=pure b:=by
 cases t<;>first|exact⟨false, @rfl _ (pure false)⟩|exact⟨true, @rfl _ (pure true)⟩|exact⟨_,rfl⟩
def Z9{t:Expr}:swappedStores [t] (.ListComp elt gens scope pos) pe=pure none:=by cases t<;>exact @rfl _ (pure none)
def Z'(c:Ctx F mg mb I n A aa pe)(nj:∀{elt gens scope pos} {st U:ah} {v:V},I.ev aa (.ListComp elt gens scope pos) st=some (v,U)->∃J m,m<=n/\Ctx F mg mb J m A aa pe/\comp F.P J aa elt gens scope st=some (v,U))
 (S:ar F μ st s) (fd:bh F μ st.length s.heap aa pe) {t:Expr} {elt:Expr} {gens:List c9} {scope:cj} {EW pos:Pos} {Q:Flow->ao->Prop}
 (h:(bd (I.ev aa (.ListComp elt gens scope EW)) λv=>bd (ef F.P I aa t v) λaj=>rt (Fl.next,aj)) st=some ((fl,ax),U)) (P:gx F μ st s U aa pe fl ax Q):aq F.m A (exec (.Assign [t] (.ListComp elt gens scope EW) pos) pe) Q E s:=by
 obtain⟨v,au,h1,h2⟩:=bd_some h;obtain⟨fG,aH,h3,h4⟩:=bd_some h2;obtain⟨q,rfl⟩:=rt_some h4;cases q;obtain⟨b,hb⟩:=Z8 (pe:=pe) (elt:=elt) (gens:=gens) (scope:=scope) (pos:=EW) (t:=t) (line:=pos.line);cases b with
 |false=>refine wpAny_Assign_stores (c.ev S fd h1 λbj s1 u S1 T1 bN x=> ?_) hb Z9;rw[Ez h3];exact xe c S1 bN x h3 λbI s2 S2 T2 cP=>(P bI s2 .next S2 (T1.k9.trans T2) cP .next)
 |true=>
  obtain⟨J,m,hm,cJ,hJ⟩:=nj h1;rw[exec_Assign_arm,hb];refine wB (mW (wB (aF ?_)));refine wB (Z4 cJ S fd hJ (Q:=λY s'=>aq F.m A (pure AJ) Q E s') (λ{bj s1 u Q1} S1 bN x P1=> ?_) λbI s2 S2 T2 cP=>aF (P bI s2 .next S2 T2 cP .next));rw[Ez h3];exact xe c S1 bN x h3 P1
end
end
section
section
variable{I:aT}{aa:aO}{st:ah}
private def aaa{Z:Expr->Prop}(no:∀{e},lK P I aa e st=none->Z e)(kC:∀cn k p,Z (.Constant cn k p))(kN:∀nm p,Z (.Name nm p))(kB:∀o vs p,Z (.BoolOp o vs p))(kO:∀l o r p,Z (.BinOp l o r p))
 (kU:∀x p,Z (.UnaryOp .USub x p)) (EX:∀x p,Z (.UnaryOp .Not x p)) (kI:∀t b o p,Z (.IfExp t b o p)) (kD:∀ks vs p,Z (.Dict ks vs p)) (kL:∀es p,Z (.List es p)) (kT:∀es k p,Z (.Tuple es k p))
 (kLc:∀e g s p,Z (.ListComp e g s p)) (EY:∀l o r p,Z (.Compare l [o] [r] p)) (kM:∀o nm apos as p,Z (.Call (.Attribute o nm apos) as [] p)) (kF:∀nm np as p,Z (.Call (.Name nm np) as [] p)) (kA:∀o nm p,Z (.Attribute o nm p))
 (kSl:∀o lo hi q p,Z (.Subscript o (.Slice lo hi none q) p)) (kR:∀o e q p,Z (.Subscript o (.Slice none none (some e) q) p)) (kS:∀o i p,lK P I aa (.Subscript o i p) st=(bd (I.ev aa o) λov=>bd (I.ev aa i) λiv=>getItem ov iv) st->Z (.Subscript o i p)):∀e,Z e:=by
 have kc:∀l os rs p,Z (.Compare l os rs p):=λl os rs p=>match os,rs with
  |[_],[_]=>EY ..
  |[],_=>no rfl
  |_::_::_,_=>no rfl
  |[_],[]=>no rfl
  |[_],_::_::_=>no rfl
 have aab:∀f as ks p,Z (.Call f as ks p):=λf as ks p=>by
  cases ks with
  |nil=>cases f<;>first|exact kM .. |exact kF .. |exact no rfl
  |cons _ _=>cases f<;>exact no rfl
 have aac:∀o i p,Z (.Subscript o i p):=λo i p=>by
  cases i
  case Slice lo hi DE q=>
   cases DE with
   |none=>exact kSl ..
   |some e=>
    cases lo with
    |none=>
     cases hi with
     |none=>exact kR ..
     |some _=>exact kS _ _ _ rfl
    |some _=>exact kS _ _ _ rfl
  all_goals exact kS _ _ _ rfl
 intro e;cases e
 case UnaryOp o x p=>cases o<;>first|exact kU .. |exact EX .. |exact no rfl
 all_goals first|exact kC .. |exact kN .. |exact kB .. |exact kO .. |exact kI .. |exact kD .. |exact kL .. |exact kT .. |exact kLc .. |exact kc .. |exact aab .. |exact kA .. |exact aac .. |exact no rfl
def sEv(O:Ok F)(G:mU F mg mb)(hI:Plain F I)(hE:ru F I n)(hT:uC F I n)(hX:su F I n)(hC:sv F I n):ru F ⟨lK F.P I,qR I,n6 F.P I,qT F.P I⟩ (n+1):=by
 intro A μ st U s aa pe e v Q E R S fs fd h P;have c:Ctx F mg mb I n A aa pe:=⟨O,G,hI,hE,hT,hX,hC,R,fs⟩;refine aaa (P:=F.P) (I:=I) (aa:=aa) (st:=st) (Z:=λe=>lK F.P I aa e st=some (v,U)->aq F.m A (eval e pe) Q E s) (λe h=>noNS (e.symm.trans h))
  (λY Y Y h=>Vg S h P) (λY Y h=>Uz G rfl S fs fd h P) (λo vs p h=> ?_) (λY Y Y Y h=>Vl c S fd h P) (λY Y h=>Vm c S fd h P) (λY Y h=>Vn c S fd h P) (λY Y Y Y h=>Vo c S fd h P)
  (λY Y Y h=> ?_) (λY Y h=>Vq c S fd h P) (λY Y Y h=>Vr c S fd h P) (λY Y Y Y h=>Z3 c S fd h P) (λY Y Y Y h=>Vj c S fd h P) (λY Y Y Y Y h=> ?_) (λY Y Y Y h=>Yy c S fd h P) (λY Y Y h=> ?_)
  (λY Y Y Y Y h=>Vw c S fd h P) (λY Y Y Y h=>Vy c S fd h P) (λY Y Y e h=>Vv c S fd (e.symm.trans h) P) e h
 .exact Vh c S fd h P
 .exact YB c S fd (if_some h).1 (if_some h).2 P
 .exact Ye c S fd (if_some h).1 (if_some h).2 P
 .exact Vp c S fd (if_some h).1 (if_some h).2 P
abbrev plainT:Expr->Bool
 |.UnaryOp .Not _ _=>false
 |.BoolOp .. =>false
 |.Compare .. =>false
 |.IfExp .. =>false
 |_=>true
private def aad{e:Expr}(h:plainT e=true):qR I aa e=bd (I.ev aa e) λv=>Internal.truthy v:=by
 cases e
 case UnaryOp o x p=>cases o<;>first|rfl|exact cu h
 all_goals first|rfl|exact cu h
private def aae{e:Expr}(h:plainT e=true):isTrue e pe (eval e pe)=(do let v <-eval e pe;standAt e.pos;holding [v] (PySem.truthy v)):=by
 cases e
 case UnaryOp o x p=>cases o<;>first|rfl|exact cu h
 all_goals first|rfl|exact cu h
private def aaf{Z:Expr->Prop}(no:∀{e},qR I aa e st=none->Z e)(EX:∀x p,Z (.UnaryOp .Not x p))(kB:∀o vs p,Z (.BoolOp o vs p))(EY:∀l o r p,Z (.Compare l [o] [r] p))
 (kp:∀{e},plainT e=true->Z e):∀e,Z e:=λe=>by
 cases e
 case UnaryOp o x p=>cases o<;>first|exact EX .. |exact kp rfl
 case Compare l os rs p=>
  exact match os,rs with
  |[_],[_]=>EY ..
  |[],_=>no rfl
  |_::_::_,_=>no rfl
  |[_],[]=>no rfl
  |[_],_::_::_=>no rfl
 all_goals first|exact kB .. |exact no rfl|exact kp rfl
def aag(O:Ok F)(G:mU F mg mb)(hI:Plain F I)(hE:ru F I n)(hT:uC F I n)(hX:su F I n)(hC:sv F I n):uC F ⟨lK F.P I,qR I,n6 F.P I,qT F.P I⟩ (n+1):=by
 intro A μ st U s aa pe e b Q E R S fs fd h P;have c:Ctx F mg mb I n A aa pe:=⟨O,G,hI,hE,hT,hX,hC,R,fs⟩;refine aaf (I:=I) (aa:=aa) (st:=st) (Z:=λe=>qR I aa e st=some (b,U)->aq F.m A (isTrue e pe (eval e pe)) Q E s) (λe h=>noNS (e.symm.trans h))
  (λx p h=>bc h λt au h1 h2=> ?_) (λY Y Y h=>wpAny_isTrue_BoolOp (Vi c S fd h P)) (λY Y Y Y h=>Vk c S fd h P) (λ{e} he h=>bc ((congrFun (aad he) st).symm.trans h) λv au h1 h2=> ?_) e h
 .obtain⟨e1,e2⟩:=rt_some h2;exact wpAny_isTrue_Not (hT (R.mono (mM n)) S fs fd h1 λbj s1 S1 T1=>e1▸P bj s1 (e2▸S1) (e2▸T1))
 .clear h;obtain⟨e1,e2⟩:=truthy_some h2;clear h;subst e1;subst e2;refine wpAny_isTrue_value (c.ev S fd h1 λbj s1 u S1 T1 bN x=> ?_) (aae he);cases x;exact wpAny_truthy_bool (P bj s1 S1 T1)
end
end
variable{Q:Flow→ao→Prop}
section
variable{Z:Expr->Prop}
section
variable{st:ah}{I:aT}{aa:aO}
abbrev AQ(F:Fix)(mg mb:Str->Option ai)(I:aT)(n:Nat):Prop:=∀{A:bB} {aa:aO} {pe:Env},Ctx F mg mb I n A aa pe->∀{elt gens scope pos} {st U:ah} {v:V},I.ev aa (.ListComp elt gens scope pos) st=some (v,U)->∃J m,m<=n/\Ctx F mg mb J m A aa pe/\comp F.P J aa elt gens scope st=some (v,U)
def enumA_some{it x:Expr}(h:t4 aa it=some x):∃f p q,it= .Call (.Name f p) [x] [] q/\(isName "enumerate" f && kind aa f==some .globalImplicit)=true:=by
 have q:=og it;unfold t4 at h;cases hc:cl it with
 |call g bs ks=>
  rw[hc]at h q;have q2:=og g;have h:(match cl g with|.name f=>if(isName "enumerate" f && kind aa f==some .globalImplicit && ks.isEmpty)=true then CJ bs else none|_=>none)=some x:=h;cases hg:cl g with
  |name f=>
   rw[hg]at h q2;by_cases hk:(isName "enumerate" f && kind aa f==some .globalImplicit && ks.isEmpty)=true
   .rw[if_pos hk]at h;obtain⟨h1,h2⟩:=(eO _ _).mp hk;refine q.elim λp' q=>q2.elim λp q2=> ?_;cases bs with
    |nil=>exact noNS h
    |cons y r=>
     cases r with
     |nil=>exact⟨f,p,p',by rw[q,q2,aah.mp h2,bF (show some y=some x from h)],h1⟩
     |cons=>exact noNS h
   .rw[if_neg hk]at h;exact noNS h
  |_=>rw[hg]at h;exact noNS h
 |_=>rw[hc]at h;exact noNS h
def aai{bP:Expr}(kE:∀f p x q,(isName "enumerate" f && kind aa f==some .globalImplicit)=true->jK I aa bP (.Call (.Name f p) [x] [] q)=(if isTup bP=true then bd (I.ev aa x) λv=>bd (lG v) λxs=>rt (.enum xs)else er)->Z (.Call (.Name f p) [x] [] q))
 (kp:∀{it},jK I aa bP it=(bd (I.ev aa it) srcOf)->Z it) (it:Expr):Z it:=by
 cases h:t4 aa it with
 |none=>exact kp (by unfold jK;rw[h])
 |some x=>
  refine(enumA_some h).elim λf q=>q.elim λp q=>q.elim λq' q=> ?_;have e:jK I aa bP it=(if isTup bP=true then bd (I.ev aa x) λv=>bd (lG v) λxs=>rt (.enum xs)else er):=by unfold jK;rw[h]
  rw[q.1]at e⊢;exact kE f p x q' q.2 e
def aaj(c:Ctx F mg mb I n A aa pe)(S:ar F μ st s)(fd:bh F μ st.length s.heap aa pe){bP x:Expr}(hk:(isName "enumerate" f && kind aa f==some .globalImplicit)=true){b:List Stmt}
 (he:jK I aa bP (.Call (.Name f p) [x] [] q)=(if isTup bP=true then bd (I.ev aa x) λv=>bd (lG v) λxs=>rt (.enum xs)else er))
 (h:(bd (jK I aa bP (.Call (.Name f p) [x] [] q)) λsrc=>forL src (λv aj=>bd (ef F.P I {aa with aj:=aj} bP v) λax=>I.cZ {aa with aj:=ax} b) bp 0 aa.aj) st=some ((fl,ax),U)) (P:gx F μ st s U aa pe fl ax Q):
 aq F.m A (exec (.For bP (.Call (.Name f p) [x] [] q) b [] pos) pe) Q E s:=by
 refine bc h λsrc aH h1 h4=> ?_;rw[he]at h1;have aak:=(if_some h1).1;refine bc (if_some h1).2 λv au h2 h3=>ze h3 λxs e1 h5=> ?_;clear h1 h3;obtain⟨e2,e3⟩:=rt_some h5;subst e1;subst e2;subst e3;rw[eO]at hk;have xb:dy I aa [x] st=some ([.tup xs],au):=by simp only[dy,bd,h2,rt]
 refine wpAny_For ?_ (λY=>rfl);refine Call_Name rfl (wpAny_Name (zN c.G S c.fs (AG hk.2) (Yr hk.1) ?_) (Yu hk.1));refine uD c.hI.star c.hE c.R0 S c.fs fd xb Eu c.O λbj s1 us S1 T1 y=> ?_;obtain⟨u,rfl,xu⟩:=y.one;refine xu.out.elim λa q=>q.elim λvs q=> ?_;obtain⟨eu,ht,hv⟩:=q;rw[eu];refine VH ht λh' he hit kp=> ?_;refine wpAny_pyIter_enum he ?_;have S2:ar F bj au {s1 with heap:=h'}:=S1.keeps kp rfl rfl;have T2:Step cq bj au.length s1.heap bj au.length h':=Step.of_keeps kp;have oA:∀a∈[s1.heap.objs.size+1,s1.heap.objs.size],s1.heap.get? a=none:=λa ha=>ui ((sA.mp ha).elim (λq=>q▸mM _) λq=>q▸bG _);have j:stI bj au.length h' [s1.heap.objs.size+1,s1.heap.objs.size] 0 (.enum xs):=⟨dJ _,s1.heap.objs.size+1,s1.heap.objs.size,a,vs,.none,rfl,XI _,T2.kQ.tup _ _ ht,T2.aJ hv,he,hit⟩;have bN:=fd.cq T1;obtain⟨hL,hC⟩:=bN.apart oA;exact Lk c ⟨oA,hL,hC⟩ (λY Y=>aak) ⟨h4,⟨S2,Step.of_keeps kp,bN.cq T2,EA (s':={s1 with heap:=h'}) S1 oA (pN j)⟩,j⟩ λgy s3 f S3 T3 pM hf=>P gy s3 f S3 (T1.k9.trans T3) pM hf
def aal(c:Ctx F mg mb I n A aa pe)(S:ar F μ st s)(fd:bh F μ st.length s.heap aa pe){bP it:Expr}{b:List Stmt}
 (h:(bd (jK I aa bP it) λsrc=>forL src (λv aj=>bd (ef F.P I {aa with aj:=aj} bP v) λax=>I.cZ {aa with aj:=ax} b) bp 0 aa.aj) st=some ((fl,ax),U)) (P:gx F μ st s U aa pe fl ax Q):
 aq F.m A (exec (.For bP it b [] pos) pe) Q E s:=by
 exact aai (aa:=aa) (I:=I) (bP:=bP) (Z:=λit=>(bd (jK I aa bP it) λsrc=>forL src (λv aj=>bd (ef F.P I {aa with aj:=aj} bP v) λax=>I.cZ {aa with aj:=ax} b) bp 0 aa.aj) st=some ((fl,ax),U)->aq F.m A (exec (.For bP it b [] pos) pe) Q E s)
  (λY Y Y Y hk he h=>aaj c S fd hk he h P) (λe h=>Zr c S fd (e▸h) P) it h
def aam(no:∀{t},t5 I aa t st=none->Z t)(kD:∀o i p,Z (.Subscript o i p))(t:Expr):Z t:=by
 have q:=og t;cases hc:cl t with
 |sub o i=>rw[hc]at q;exact q.elim λp q=>q▸kD o i p
 |_=>exact no (by unfold t5;rw[hc];rfl)
private def aan{Z:Stmt->Prop}(no:∀{q},qS P I aa q st=none->Z q)(kE:∀e p,Z (.Expr e p))(kA:∀t e p,Z (.Assign [t] e p))(kI:∀t b o p,Z (.If t b o p))(kW:∀t b p,Z (.While t b [] p))
 (kF:∀bP it b p,Z (.For bP it b [] p)) (k0:∀p,Z (.Return none p)) (kR:∀e p,Z (.Return (some e) p)) (kD:∀ts q,Z (.Delete ts q)):∀q,Z q:=λq=>by
 cases q
 case Assign ts e p=>exact match ts with|[]=>no rfl|[t]=>kA .. |_::_::_=>no rfl
 case While t b o p=>cases o<;>first|exact kW .. |exact no rfl
 case For bP it b o p=>cases o<;>first|exact kF .. |exact no rfl
 case Return e p=>cases e<;>first|exact k0 .. |exact kR ..
 all_goals first|exact kE .. |exact kI .. |exact kD .. |exact no rfl
def aao(c:Ctx F mg mb I n A aa pe)(S:ar F μ st s)(fd:bh F μ st.length s.heap aa pe){ts:List Expr}
 (h:(bd (yW ts) (t5 I aa)) st=some ((fl,ax),U)) (P:gx F μ st s U aa pe fl ax Q):aq F.m A (exec (.Delete ts pos) pe) Q E s:=by
 refine bc h λt au h1 h2=> ?_;obtain⟨e1,e2⟩:=one1_some h1;subst e1;subst e2;exact aam (I:=I) (aa:=aa) (st:=st) (Z:=λt=>t5 I aa t st=some ((fl,ax),U)->aq F.m A (exec (.Delete [t] pos) pe) Q E s) (λe h=>noNS (e.symm.trans h)) (λY Y Y h=>Zn c S fd h P) t h2
def aap(kn:∀{e},pn e=true->Z e)(kL:∀a b c d,Z (.ListComp a b c d))(kS:∀a b c d,Z (.SetComp a b c d))(kD:∀a b c d f,Z (.DictComp a b c d f))(e:Expr):Z e:=by
 have q:=og e;cases hc:cl e with
 |comp=>rw[hc]at q;exact q.elim (λq=>q.elim λa q=>q.elim λb q=>q.elim λc q=>q.elim λd q=>q▸kL a b c d) λq=>q.elim (λq=>q.elim λa q=>q.elim λb q=>q.elim λc q=>q.elim λd q=>q▸kS a b c d) λq=>q.elim λa q=>q.elim λb q=>q.elim λc q=>q.elim λd q=>q.elim λf q=>q▸kD a b c d f
 |_=>exact kn (by unfold pn;rw[hc])
def aaq(c:Ctx F mg mb I n A aa pe)(nj:AQ F mg mb I n)(S:ar F μ st s)(fd:bh F μ st.length s.heap aa pe){t e:Expr}(ok:n5 t e=true)
 (h:(bd (I.ev aa e) λv=>bd (ef F.P I aa t v) λaj=>rt (Fl.next,aj)) st=some ((fl,ax),U)) (P:gx F μ st s U aa pe fl ax Q):aq F.m A (exec (.Assign [t] e p) pe) Q E s:=by
 exact aap (Z:=λe=>n5 t e=true->(bd (I.ev aa e) λv=>bd (ef F.P I aa t v) λaj=>rt (Fl.next,aj)) st=some ((fl,ax),U)->aq F.m A (exec (.Assign [t] e p) pe) Q E s)
  (λhn ok h=>Zi c S fd hn ok h P) (λY Y Y Y Y h=>Z' c (nj c) S fd h P) (λY Y Y Y Y h=>bc h λv au h1 Y=>noNS ((c.hI.Vd ..).symm.trans h1)) (λY Y Y Y Y Y h=>bc h λv au h1 Y=>noNS ((c.hI.Ve ..).symm.trans h1)) e ok h
def aar(c:Ctx F mg mb I n A aa pe)(nj:AQ F mg mb I n)(S:ar F μ st s)(fd:bh F μ st.length s.heap aa pe){q:Stmt}
 (h:qS F.P I aa q st=some ((fl,ax),U)) (P:gx F μ st s U aa pe fl ax Q):aq F.m A (exec q pe) Q E s:=
 aan (P:=F.P) (I:=I) (aa:=aa) (st:=st) (Z:=λq=>qS F.P I aa q st=some ((fl,ax),U)->aq F.m A (exec q pe) Q E s) (λe h=>noNS (e.symm.trans h))
  (λY Y h=>Zj c S fd (if_some h).1 (if_some h).2 P) (λY Y Y h=>aaq c nj S fd (if_some h).1 (if_some h).2 P) (λY Y Y Y h=>Zk c S fd h P) (λY Y Y h=>Zq c S fd h P) (λY Y Y Y h=>aal c S fd h P)
  (λY h=>Zl c S fd h P) (λY Y h=>Zm c S fd h P) (λY Y h=>aao c S fd h P) q h
def aat(O:Ok F)(G:mU F mg mb)(hI:Plain F I)(hE:ru F I n)(hT:uC F I n)(hX:su F I n)(hC:sv F I n)(nj:AQ F mg mb I n):su F ⟨lK F.P I,qR I,n6 F.P I,qT F.P I⟩ (n+1):=by
 intro A μ st U s aa pe ss fl ax Q E R S fs fd h P;have h:n6 F.P I aa ss st=some ((fl,ax),U):=h;have c:Ctx F mg mb I n A aa pe:=⟨O,G,hI,hE,hT,hX,hC,R,fs⟩;clear fs;induction ss generalizing aa st μ s with
 |nil=>
  obtain⟨q,rfl⟩:=rt_some h;cases q;exact aF (P μ s .next S (Step.refl ..) fd .next)
 |cons q r ih=>
  obtain⟨⟨EH,fG⟩,au,h1,h2⟩:=bd_some h;refine wpAny_execs_cons (aar c nj S fd h1 λbj s1 f S1 T1 bN hf=> ?_);clear h h1;cases hf with
  |next=>exact ih (aa:={aa with aj:=fG}) S1 bN h2 (λbI s2 f S2 T2 cP hf=>P bI s2 f S2 (T1.trans T2) cP hf) h2 (c.aj fG)
  |ret hv=>
   obtain⟨q,rfl⟩:=rt_some h2;cases q;exact P bj s1 _ S1 T1 bN (.ret hv)
end
end
def LY:∀n:Nat,Plain F (iR F.P n)
 |0=>⟨λY Y Y Y=>rfl,λY Y Y Y Y=>rfl,λY Y Y Y Y Y=>rfl,λY Y Y Y Y Y=>rfl,λY Y Y Y Y Y Y=>rfl,λk as st r h=>by cases h⟩
 |n+1=>⟨λY Y Y Y=>rfl,λY Y Y Y Y=>rfl,λY Y Y Y Y Y=>rfl,λY Y Y Y Y Y=>rfl,λY Y Y Y Y Y Y=>rfl,λk as st r h=>by
  obtain⟨fd,au,h1,_⟩:=bd_some (r:=(r.1,r.2)) (show qT F.P (iR F.P n) k as st=some (r.1,r.2)from h);obtain⟨h2,_⟩:=op_some h1;exact⟨fd,h2⟩⟩
structure All(F:Fix)(n:Nat):Prop where
 ev:ru F (iR F.P n) n
 b7:uC F (iR F.P n) n
 cZ:su F (iR F.P n) n
 call:sv F (iR F.P n) n
def all_zero:All F 0:=⟨λY Y Y Y h Y=>(by cases h),λY Y Y Y h Y=>(by cases h),λY Y Y Y h Y=>(by cases h),λY Y Y h Y=>(by cases h)⟩
def all(O:Ok F)(G:mU F mg mb):∀n:Nat,All F n:=by
 intro n;induction n using aau with
 |ind n ih=>
  cases n with
  |zero=>exact all_zero
  |succ n=>
   have a:=ih n (oB n);have hI:=LY (F:=F) n;have nj:AQ F mg mb (iR F.P n) n:=by
    intro A aa pe c elt gens scope pos st U v h;cases n with
    |zero=>cases h
    |succ m=>have b:=ih m (a9 az (.add az aX) [] rfl);exact⟨iR F.P m,m,mM m,⟨O,G,LY m,b.ev,b.b7,b.cZ,b.call,c.R.mono (a9 az (.add az aX) [] rfl),c.fs⟩,h⟩
   exact⟨sEv O G hI a.ev a.b7 a.cZ a.call,aag O G hI a.ev a.b7 a.cZ a.call,aat O G hI a.ev a.b7 a.cZ a.call nj,U1 O G (I:=iR F.P n) a.cZ⟩
variable{a oD:ah}{Q:V→ah→Prop}{P:Prop}
section
def ay{α:Sort _}{β:Sort _}{f:α->β}(x:α):f x=f x:=rfl
@[irreducible] abbrev wp{α:Type}(m:M α)(Q:α->ah->Prop)(st:ah):Prop:=match m st with|some (a,U)=>Q a U|none=>False
section
variable{st:ah}
def bC{a:α}{Q:α->ah->Prop}:wp (rt a) Q st=Q a st:=by unfold wp;rfl
def aZ{m:M α}{f:α->M β}{Q:β->ah->Prop}:wp (bd m f) Q st=wp m (λa U=>wp (f a) Q U) st:=by
 unfold wp bd;cases m st with
 |none=>rfl
 |some p=>rfl
def pZ{a:α}{Q:α->ah->Prop}:wp (op (some a)) Q st=Q a st:=by unfold wp;rfl
def wp_mono{m:M α}{Q R:α->ah->Prop}(h:wp m Q st)(k:∀a U,Q a U->R a U):wp m R st:=by
 unfold wp at*;cases e:m st with
 |none=>rw[e]at h;exact h
 |some p=>rw[e]at h;exact k _ _ h
def wp_run{m:M α}{Q:α->ah->Prop}(h:wp m Q st):∃a U,m st=some (a,U)/\Q a U:=by
 unfold wp at h;cases e:m st with
 |none=>rw[e]at h;exact h.elim
 |some p=>rw[e]at h;exact⟨p.1,p.2,rfl,h⟩
def AR{Q:O->ah->Prop}{o:O}(h:st[l]? =some o):wp (dQ l) Q st=Q o st:=by unfold wp dQ;rw[h]
def AS{o:O}{Q:V->ah->Prop}:wp (je o) Q st=Q (.ab st.length) (st++[o]):=by unfold wp;rfl
def xy{o o':O}{Q:Unit->ah->Prop}(h:st[l]? =some o'):wp (jH l o) Q st=Q () (st.set l o):=by unfold wp jH;rw[if_pos ((b9.mp h).1)]
def p6{Q:Unit->ah->Prop}(h:n<=bH):wp (fits n) Q st=Q () st:=by unfold fits;rw[if_pos h,bC]
def EZ{xs:List V}{Q:V->ah->Prop}(h:xs.length<=bH):wp (cg xs) Q st=Q (.ab st.length) (st++[.list xs]):=by unfold cg;rw[aZ,p6 h,AS]
def d5{xs:List V}{Q:Nat×List V->ah->Prop}(h:st[l]? =some (.list xs)):wp (getL (.ab l)) Q st=Q (l,xs) st:=by show wp (bd (dQ l) _) Q st=_;rw[aZ,AR h];exact bC ..
def AU{xs ys:List V}{Q:Unit->ah->Prop}(h:st[l]? =some (.list ys))(h0:l≠0)(hc:xs.length<=bH):wp (gE l xs) Q st=Q () (st.set l (.list xs)):=by unfold gE;rw[aZ,p6 hc,if_pos h0,xy h]
end
@[irreducible] abbrev ip(n:Nat):aT:=iR aY n
@[irreducible] abbrev xs(I:aT)(aa:aO)(b:List Stmt):M (Fl×aw):=n6 aY I aa b
def aav(n:Nat)(k:FK)(as:List V):(ip (n+1)).call k as=qT aY (ip n) k as:=by unfold ip;rfl
def eZ(n:Nat)(aa:aO)(e:Expr):(ip (n+1)).ev aa e=lK aY (ip n) aa e:=by unfold ip;rfl
def p7(n:Nat)(aa:aO)(e:Expr):(ip (n+1)).b7 aa e=qR (ip n) aa e:=by unfold ip;rfl
def sR(n:Nat)(aa:aO)(e:List Stmt):(ip (n+1)).cZ aa e=xs (ip n) aa e:=by unfold ip xs;rfl
def wp_call{c f:String}{as:List V}{Q:V->ah->Prop}{st:ah}{ps:List Str}{body:List Stmt}{aj:aw}
 (h1:ij (aM c,aM f) aY.tab=some ⟨ps,body,scope⟩) (h2:r7 (qO scope) ps as=some aj)
 (h:wp (xs (ip n) ⟨scope,aj⟩ body) (λr U=>match r.1 with|.ret v=>Q v U|.next=>Q .none U) st):
 wp ((ip (n+2)).call (aM c,aM f) as) Q st:=by
 rw[aav];unfold qT;rw[h1,aZ,pZ,h2,aZ,pZ,aZ,sR];refine wp_mono h λr U hr=> ?_;cases hf:r.1 with
 |next=>rw[hf]at hr;rw[bC];exact hr
 |ret v=>rw[hf]at hr;rw[bC];exact hr
abbrev nx(I:aT)(aa:aO)(r:List Stmt)(Q:Fl×aw->ah->Prop):Fl×aw->ah->Prop:=λq U=>match q.1 with|.next=>wp (xs I {aa with aj:=q.2} r) Q U|.ret _=>Q q U
section
variable{I:aT}{aa:aO}{r:List Stmt}{Q:Fl×aw->ah->Prop}{st:ah}
def p8{s:Stmt}(h:wp (qS aY I aa s) (nx I aa r Q) st):wp (xs I aa (s::r)) Q st:=by
 unfold xs;show wp (bd (qS aY I aa s) _) Q st;rw[aZ];refine wp_mono h λq U hq=> ?_;unfold nx xs at hq;cases hf:q.1 with
 |next=>simp only[hf]at hq⊢;exact hq
 |ret v=>simp only[hf]at hq⊢;rw[bC];exact hq
def LZ(h:Q (.next,aa.aj) st):wp (xs I aa []) Q st:=by unfold xs;show wp (rt _) Q st;rw[bC];exact h
def E1{t e:Expr}(ok:n5 t e=true)(h:wp (I.ev aa e) (λv U=>wp (ef aY I aa t v) (λaj oD=>wp (xs I {aa with aj:=aj} r) Q oD) U) st):wp (xs I aa (.Assign [t] e q::r)) Q st:=by refine p8 ?_;show wp (if n5 t e=true then bd (I.ev aa e) λv=>bd (ef aY I aa t v) λaj=>rt (.next,aj)else er) (nx I aa r Q) st;rw[if_pos ok,aZ];refine wp_mono h λv U h=> ?_;rw[aZ];refine wp_mono h λaj U h=> ?_;rw[bC];exact h
def aaw{e:Expr}(ok:pn e=true)(h:wp (I.ev aa e) (λY U=>wp (xs I aa r) Q U) st):wp (xs I aa (.Expr e q::r)) Q st:=by refine p8 ?_;show wp (if pn e=true then bd (I.ev aa e) λY=>rt (.next,aa.aj)else er) (nx I aa r Q) st;rw[if_pos ok,aZ];refine wp_mono h λv U h=> ?_;rw[bC];exact h
def E6{t:Expr}{b o:List Stmt}(h:wp (I.b7 aa t) (λc U=>if c=true then wp (I.cZ aa b) (nx I aa r Q) U else wp (I.cZ aa o) (nx I aa r Q) U) st):wp (xs I aa (.If t b o q::r)) Q st:=by refine p8 ?_;show wp (bd (I.b7 aa t) λc=>if c then I.cZ aa b else I.cZ aa o) (nx I aa r Q) st;rw[aZ];refine wp_mono h λc U hc=> ?_;cases c<;>exact hc
def Ma{e:Expr}(h:wp (I.ev aa e) (λv U=>Q (.ret v,aa.aj) U) st):wp (xs I aa (.Return (some e) q::r)) Q st:=by refine p8 ?_;show wp (bd (I.ev aa e) λv=>rt (.ret v,aa.aj)) (nx I aa r Q) st;rw[aZ];refine wp_mono h λv U h=> ?_;rw[bC];exact h
def aax(h:Q (.ret .none,aa.aj) st):wp (xs I aa (.Return none q::r)) Q st:=by refine p8 ?_;show wp (rt (.ret .none,aa.aj)) (nx I aa r Q) st;rw[bC];exact h
def aay{t:Expr}{b:List Stmt}(h:wp (pg (λaj=>I.b7 {aa with aj:=aj} t) (λaj=>I.cZ {aa with aj:=aj} b) bp aa.aj) (nx I aa r Q) st):wp (xs I aa (.While t b [] q::r)) Q st:=p8 h
def Mb{t it:Expr}{b:List Stmt}(h:wp (jK I aa t it) (λsrc U=>wp (forL src (λv aj=>bd (ef aY I {aa with aj:=aj} t v) λax=>I.cZ {aa with aj:=ax} b) bp 0 aa.aj) (nx I aa r Q) U) st):wp (xs I aa (.For t it b [] q::r)) Q st:=by
 refine p8 ?_;show wp (bd (jK I aa t it) λsrc=>forL src (λv aj=>bd (ef aY I {aa with aj:=aj} t v) λax=>I.cZ {aa with aj:=ax} b) bp 0 aa.aj) (nx I aa r Q) st;rw[aZ];exact h
end
abbrev mf(I:aT)(sc:cj)(r:List Stmt)(Q:Fl×aw->ah->Prop):Fl×aw->ah->Prop:=λq U=>match q.1 with|.next=>wp (xs I ⟨sc,q.2⟩ r) Q U|.ret _=>Q q U
abbrev rq(Q:V->ah->Prop):Fl×aw->ah->Prop:=λr U=>match r.1 with|.ret v=>Q v U|.next=>Q .none U
abbrev lq(J:aw->ah->Prop)(Q:Fl×aw->ah->Prop):Fl×aw->ah->Prop:=λr U=>match r.1 with|.next=>J r.2 U|.ret _=>Q r U
abbrev Pre(st U:ah):Prop:=∀(l:Nat) (o:O),st[l]? =some o->U[l]? =some o
def Pre.refl(st:ah):Pre st st:=λY Y h=>h
def Pre.trans{c:ah}(x:Pre a b)(y:Pre b c):Pre a c:=λl o h=>y l o (x l o h)
def Pre.app(st:ah)(e:ah):Pre st (st++e):=λl o h=>by rw[oe ((b9.mp h).1)];exact h
def Pre.len(x:Pre a b):a.length<=b.length:=by
 cases h:a.length with
 |zero=>exact dJ _
 |succ n=>
  have hn:n<a.length:=aG aK af [.q af aK] rfl h
  exact aG az ak [.l az ak] rfl ((b9.mp (x n a[n] (dS hn))).1)
def Pre.set(x:Pre a b)(h:a.length<=l)(o:O):Pre a (b.set l o):=λk ob hk=>by rw[mN (by exact cO [.l af ak,.l bD af,.e ak av] rfl h ((b9.mp hk).1))];exact x k ob hk
@[reducible]abbrev Th:=Fin 7
@[reducible]abbrev aW:=Fin 9
abbrev tm(t:Th):V:=.int ((t.val:Int)+3)
abbrev bJ(t:aW):V:=.int ((t.val:Int)+10)
@[reducible]abbrev bR:=Option Nat
@[reducible]abbrev Sep:=Th×Th×Nat
@[reducible]abbrev Told:=Option Sep
inductive Ent where
 |tab (r:Th) (o:Option Th)
 |join (s l:Th) (m u a w:Nat) (v:Option Th)
 |di (l top:Th)
 |apart (a b:Th)
 |aA (t:aW)
structure Core where
 ae:Th->Th
 mem:Th->List Th
 use:Th->List Th
 val:Th->Option Th
 aD:Th->List Sep
 aS:Th->List aW
 up:Th->Option (Th×bR)
 tab:Th->Option Th
 aA:aW->Option Told
structure Base where
 cN:List V
 p9:List (Str×V)
 gJ:List V
 gK:List V
structure aB where
 b:Base
 k:Core
 aU:List Ent
 bk:List aW
 aN:List (Th×Th×bR)
 bt:List Nat
set_option genInjectivity true in
inductive HR where
 |inst|gg|gJ|gK
 |ae|members|uses|value|apart|watchers|up|table|oE|aA
 |bk|aN|aU|bt
 |mem (t:Th)|use (t:Th)|aD (t:Th)|aS (t:Th)
abbrev HR.ctorIdx(x:HR):Nat:=HR.casesOn (motive:=λY=>Nat) x 0 1 2 3 4 5 6 7 8 9 10 11 12 13 14 15 16 17 (λY=>18) (λY=>19) (λY=>20) (λY=>21)
structure ck where
 ab:HR->Nat
 rep:Nat
 ep:HR->Option Nat
 xA:Option Nat
 xB:Option Nat
 xC:Option Nat
 iF:List (Th×(Th×bR))
 iG:List (Th×Th)
 jv:List (aW×Told)
@[reducible]abbrev aB.AV(H:aB)(x:Th->Th):aB:={H with k:=⟨x,H.k.mem,H.k.use,H.k.val,H.k.aD,H.k.aS,H.k.up,H.k.tab,H.k.aA⟩}
@[reducible]abbrev aB.AW(H:aB)(x:Th->List Th):aB:={H with k:=⟨H.k.ae,x,H.k.use,H.k.val,H.k.aD,H.k.aS,H.k.up,H.k.tab,H.k.aA⟩}
@[reducible]abbrev aB.AX(H:aB)(x:Th->List Th):aB:={H with k:=⟨H.k.ae,H.k.mem,x,H.k.val,H.k.aD,H.k.aS,H.k.up,H.k.tab,H.k.aA⟩}
@[reducible]abbrev aB.E7(H:aB)(x:Th->Option Th):aB:={H with k:=⟨H.k.ae,H.k.mem,H.k.use,x,H.k.aD,H.k.aS,H.k.up,H.k.tab,H.k.aA⟩}
@[reducible]abbrev aB.rF(H:aB)(x:Th->List Sep):aB:={H with k:=⟨H.k.ae,H.k.mem,H.k.use,H.k.val,x,H.k.aS,H.k.up,H.k.tab,H.k.aA⟩}
@[reducible]abbrev aB.AY(H:aB)(x:Th->List aW):aB:={H with k:=⟨H.k.ae,H.k.mem,H.k.use,H.k.val,H.k.aD,x,H.k.up,H.k.tab,H.k.aA⟩}
@[reducible]abbrev aB.u5(H:aB)(x:Th->Option (Th×bR)):aB:={H with k:=⟨H.k.ae,H.k.mem,H.k.use,H.k.val,H.k.aD,H.k.aS,x,H.k.tab,H.k.aA⟩}
@[reducible]abbrev aB.AZ(H:aB)(x:Th->Option Th):aB:={H with k:=⟨H.k.ae,H.k.mem,H.k.use,H.k.val,H.k.aD,H.k.aS,H.k.up,x,H.k.aA⟩}
@[reducible]abbrev aB.Ba(H:aB)(x:aW->Option Told):aB:={H with k:=⟨H.k.ae,H.k.mem,H.k.use,H.k.val,H.k.aD,H.k.aS,H.k.up,H.k.tab,x⟩}
abbrev HR.code(r:HR):Nat×Th:= @HR.rec (λY=>Nat×Th) (0,0) (1,0) (2,0) (3,0) (4,0) (5,0) (6,0) (7,0) (8,0) (9,0) (10,0) (11,0) (12,0) (13,0) (14,0) (15,0) (16,0) (17,0) (λt=>(18,t)) (λt=>(19,t)) (λt=>(20,t)) (λt=>(21,t)) r
abbrev HR.of(p:Nat×Th):HR:=([.inst,.gg,.gJ,.gK,.ae,.members,.uses,.value,.apart,.watchers,.up,.table,.oE,.aA,.bk,.aN,.aU,.bt,.mem p.2,.use p.2,.aD p.2,.aS p.2][p.1]?).getD .inst
def HR.Mc(r:HR):HR.of r.code=r:= @HR.rec (λr=>HR.of r.code=r) rfl rfl rfl rfl rfl rfl rfl rfl rfl rfl rfl rfl rfl rfl rfl rfl rfl rfl (λY=>rfl) (λY=>rfl) (λY=>rfl) (λY=>rfl) r
abbrev same(a b:HR):Bool:=qJ a.code.1 b.code.1 && qJ a.code.2.val b.code.2.val
def same_refl(a:HR):same a a=true:=by unfold same;rw[zf,zf];rfl
def oG{a b:HR}(h:same a b=true):a=b:=
 have h:=lQ.mp h
 (HR.Mc a).symm.trans ((congrArg HR.of (JM (v9 h.1) (u6 (v9 h.2)))).trans (HR.Mc b))
abbrev things:List Th:=[0,1,2,3,4,5,6]
abbrev fZ:List aW:=[0,1,2,3,4,5,6,7,8]
abbrev aV(t:aW):Th×Th:=([(0,1),(1,2),(0,2),(3,4),(0,5),(2,6),(3,5),(4,6),(5,6)][t.val]?).getD (0,0)
abbrev oz:Option Th->V|none=>.int 0|some t=>tm t
abbrev on:Option Th->V|none=>.none|some t=>tm t
abbrev wv:bR->V|none=>.str (aM "arguments")|some m=>.int m
abbrev gY(s:Sep):V:=.tup [tm s.1,tm s.2.1,.int s.2.2]
abbrev gL:Told->V|none=>.tup [.int 1,.none]|some s=>.tup [.int (-1),gY s]
abbrev rG(e:Th×bR):V:=.tup [tm e.1,wv e.2]
abbrev Bb(q:Th×Th×bR):V:=.tup [tm q.1,tm q.2.1,wv q.2.2]
abbrev jw(r:Th):V:=.tup [.int 0,tm r]
abbrev nat(n:Nat):V:=.int n
abbrev rH:Ent->V
 |.tab r o=>.tup [.str (aM "table"),jw r,on o]
 |.join s l m u a w v=>.tup [.str (aM "join"),tm s,tm l,.tup [nat m,nat u,nat a,nat w],oz v]
 |.di l top=>.tup [.str (aM "edge"),tm l,tm top]
 |.apart a b=>.tup [.str (aM "apart"),tm a,tm b]
 |.aA t=>.tup [.str (aM "told"),bJ t]
abbrev oH(ab:HR->Nat):List (Str×V):=[
 (aM "bank",.ab (ab .gg)),(aM "root",.ab (ab .ae)),(aM "members",.ab (ab .members)),(aM "uses",.ab (ab .uses)),(aM "value",.ab (ab .value)),(aM "apart",.ab (ab .apart)),(aM "watchers",.ab (ab .watchers)),(aM "up",.ab (ab .up)),(aM "table",.ab (ab .table)),(aM "sides",.ab (ab .oE)),(aM "told",.ab (ab .aA)),(aM "news",.ab (ab .bk)),(aM "queue",.ab (ab .aN)),(aM "clash",.none),(aM "clash_level",.int 0),(aM "trail",.ab (ab .aU)),(aM "marks",.ab (ab .bt))]
abbrev enc{α β:Type}(ke:α->V)(ve:β->V)(l:List (α×β)):List (V×V):=l.map λp=>(ke p.1,ve p.2)
abbrev gM(f:Th->V):List (V×V):=things.map λt=>(tm t,f t)
abbrev obj(c:ck)(H:aB):HR->O
 |.inst=>.inst (aM "Congruence") (oH c.ab)
 |.gg=>.inst (aM "Bank") H.b.p9
 |.gJ=>.list H.b.gJ
 |.gK=>.list H.b.gK
 |.ae=>.dict (gM λt=>tm (H.k.ae t)) (some c.rep)
 |.members=>.dict (gM λt=>.ab (c.ab (.mem t))) (c.ep .members)
 |.uses=>.dict (gM λt=>.ab (c.ab (.use t))) (c.ep .uses)
 |.value=>.dict (gM λt=>oz (H.k.val t)) (c.ep .value)
 |.apart=>.dict (gM λt=>.ab (c.ab (.aD t))) (c.ep .apart)
 |.watchers=>.dict (gM λt=>.ab (c.ab (.aS t))) (c.ep .watchers)
 |.up=>.dict (enc tm rG c.iF) c.xA
 |.table=>.dict (enc jw tm c.iG) c.xB
 |.oE=>.dict (fZ.map λt=>(bJ t,.tup [tm (aV t).1,tm (aV t).2])) (c.ep .oE)
 |.aA=>.dict (enc bJ gL c.jv) c.xC
 |.bk=>.list (H.bk.map bJ)
 |.aN=>.list (H.aN.map Bb)
 |.aU=>.list (H.b.cN++H.aU.map rH)
 |.bt=>.list (H.bt.map nat)
 |.mem t=>.list ((H.k.mem t).map tm)
 |.use t=>.list ((H.k.use t).map tm)
 |.aD t=>.list ((H.k.aD t).map gY)
 |.aS t=>.list ((H.k.aS t).map bJ)
abbrev lk{α β:Type} [DecidableEq α]:List (α×β)->α->Option β
 |[],_=>none
 |p::r,a=>if p.1=a then some p.2 else lk r a
structure BOk(ab:HR->Nat)(b:Base):Prop where
 fa:eV b.p9 (aM "term_args")=some (.ab (ab .gJ))
 fd:eV b.p9 (aM "term_datas")=some (.ab (ab .gK))
 nm:∀n:String,n∈["args","data"]->eV b.p9 (aM n)=none
 a6:b.gJ[6]? =some (.tup [tm 0])
 a7:b.gJ[7]? =some (.tup [tm 1])
 d6:b.gK[6]? =some (.int 0)
 d7:b.gK[7]? =some (.int 0)
class Rep (c:ck) (H:outParam aB) (st:ah):Prop where
 inj:∀r r',c.ab r=c.ab r'->r=r'
 at':∀r,st[c.ab r]? =some (obj c H r)
 base:BOk c.ab H.b
 up:∀t,lk c.iF t=H.k.up t
 jV:(c.iF.map (·.1)).Nodup
 tab:∀t,lk c.iG t=H.k.tab t
 jW:(c.iG.map (·.1)).Nodup
 aA:∀t,lk c.jv t=H.k.aA t
 fk:(c.jv.map (·.1)).Nodup
 pos:∀r,c.ab r≠0
structure Off(c:ck)(st:ah)(l:Nat):Prop where
 lt:l<st.length
 ne:∀r,c.ab r≠l
 nz:l≠0
structure Ev(c:ck)(st:ah)(c':ck)(U:ah):Prop where
 get:∀l,Off c st l->U[l]? =st[l]?
 ab:∀r,(∃r',c'.ab r=c.ab r')\/st.length<=c'.ab r
 len:st.length<=U.length
 inst:c'.ab .inst=c.ab .inst
section
variable{c c' xD:ck}{st:ah}{H H':aB}
def Ev.refl(c:ck)(st:ah):Ev c st c st:=⟨λY Y=>rfl,λr=>.inl ⟨r,rfl⟩,bG _,rfl⟩
def Ev.off(x:Ev c st c' U)(h:Off c st l):Off c' U l:=
 ⟨eM h.lt x.len,λr=>by
  rcases x.ab r with⟨r',e⟩|e
  .rw[e];exact h.ne r'
  .have:=h.lt;(exact cO [.l af ak,.l bD af,.e ak av] rfl e this),h.nz⟩
def Ev.trans(x:Ev c st c' U)(y:Ev c' U xD oD):Ev c st xD oD:=
 ⟨λl h=>(y.get l (x.off h)).trans (x.get l h),λr=>by
  rcases y.ab r with⟨r',e⟩|e
  .rw[e];exact x.ab r'
  .exact .inr (bx x.len e),bx x.len y.len,y.inst.trans x.inst⟩
def Ev.nr(x:Pre st U):Ev c st c U:=⟨λl h=>by rw[dS h.lt];exact x l _ (dS h.lt),λr=>.inl ⟨r,rfl⟩,x.len,rfl⟩
def Ev.pre(x:Ev c st c' U)(y:Pre U oD):Ev c st c' oD:=x.trans (.nr y)
def Rep.lt(hR:Rep c H st)(r:HR):c.ab r<st.length:=(b9.mp (hR.at' r)).1
def Rep.pre(hR:Rep c H st)(x:Pre st U):Rep c H U:={hR with at':=λr=>x _ _ (hR.at' r)}
def Rep.grow(hR:Rep c H st)(e:ah):Rep c H (st++e):=hR.pre (.app st e)
def Rep.off(hR:Rep c H st)(o:O):Off c (st++[o]) st.length:=⟨by simp,λr e=>by have:=hR.lt r;(exact ln2 [.q af ak,.l az ak] rfl e this),λe=>by have:=hR.lt .inst;rw[e]at this;cases this⟩
def Rep.set(hR:Rep c H st)(h:Off c st l)(o:O):Rep c H (st.set l o):={hR with at':=λr=>by rw[mN (λe=>h.ne r e.symm)];exact hR.at' r}
def Off.pre(h:Off c st l)(x:Pre st U):Off c U l:=⟨eM h.lt x.len,h.ne,h.nz⟩
def Off.set{o:O}(h:Off c st l):Off c (st.set k o) l:=⟨by rw[lP];exact h.lt,h.ne,h.nz⟩
def Rep.write(hR:Rep c H st)(r:HR)(hl:c'.ab=c.ab)(ho:∀r',same r' r=false->obj c' H' r'=obj c H r')(hb:H'.b=H.b)
 (up:∀t,lk c'.iF t=H'.k.up t) (jV:(c'.iF.map (·.1)).Nodup) (tab:∀t,lk c'.iG t=H'.k.tab t) (jW:(c'.iG.map (·.1)).Nodup)
 (aA:∀t,lk c'.jv t=H'.k.aA t) (fk:(c'.jv.map (·.1)).Nodup) {P:ah->Prop} (k:∀U,Rep c' H' U->Ev c st c' U->P U):P (st.set (c.ab r) (obj c' H' r)):=by
 refine k _ ⟨λa b=>by rw[hl];exact hR.inj a b,λr'=> ?_,by rw[hl,hb];exact hR.base,up,jV,tab,jW,aA,fk,λr=>by rw[hl];exact hR.pos r⟩ ⟨λl h=>mN (h.ne r),λa=>.inl ⟨a,congrFun hl a⟩,lD lP.symm,congrFun hl _⟩;rw[hl];cases h:same r' r with
 |true=>rw[oG h];exact CQ (hR.lt r)
 |false=>rw[mN (λe=>by rw[hR.inj _ _ e,same_refl]at h;cases h),ho r' h];exact hR.at' r'
def la{r:HR}(ae:same .ae r=false->H'.k.ae=H.k.ae)(val:same .value r=false->H'.k.val=H.k.val)(mem:∀t,same (.mem t) r=false->H'.k.mem t=H.k.mem t)(use:∀t,same (.use t) r=false->H'.k.use t=H.k.use t)
 (aD:∀t,same (.aD t) r=false->H'.k.aD t=H.k.aD t) (aS:∀t,same (.aS t) r=false->H'.k.aS t=H.k.aS t) (bk:same .bk r=false->H'.bk=H.bk) (aN:same .aN r=false->H'.aN=H.aN) (aU:same .aU r=false->H'.aU=H.aU) (bt:same .bt r=false->H'.bt=H.bt) (hb:H'.b=H.b):
 ∀r',same r' r=false->obj c H' r'=obj c H r':=
 @HR.rec _ (λY=>rfl) (λY=>congrArg (λb:Base=>O.inst (aM "Bank") b.p9) hb) (λY=>congrArg (λb:Base=>O.list b.gJ) hb) (λY=>congrArg (λb:Base=>O.list b.gK) hb) (λh=>congrArg (λf:Th->Th=>O.dict (gM λt=>tm (f t)) (some c.rep)) (ae h)) (λY=>rfl) (λY=>rfl)
  (λh=>congrArg (λf:Th->Option Th=>O.dict (gM λt=>oz (f t)) (c.ep .value)) (val h)) (λY=>rfl) (λY=>rfl) (λY=>rfl) (λY=>rfl) (λY=>rfl) (λY=>rfl) (λh=>congrArg (λl=>O.list (eJ bJ l)) (bk h)) (λh=>congrArg (λl=>O.list (eJ Bb l)) (aN h))
  (λh=>(congrArg (λl=>O.list (H'.b.cN++eJ rH l)) (aU h)).trans (congrArg (λb:Base=>O.list (b.cN++eJ rH H.aU)) hb)) (λh=>congrArg (λl=>O.list (eJ nat l)) (bt h)) (λt h=>congrArg (λl=>O.list (eJ tm l)) (mem t h)) (λt h=>congrArg (λl=>O.list (eJ tm l)) (use t h)) (λt h=>congrArg (λl=>O.list (eJ gY l)) (aD t h)) (λt h=>congrArg (λl=>O.list (eJ bJ l)) (aS t h))
end
end
variable{r:HR}{k:V}{f:HR→Nat}{a b t:Th}{c:ck}{e:Th×bR}{H:aB}
section
section
variable{st:ah}
def rI(n:Nat)(i j:Int):bZ n st (.int i) (.int j)=some (decide (i=j)):=by cases n<;>rfl
def Md(n:Nat)(i j:Str):bZ n st (.str i) (.str j)=some (decide (i=j)):=by cases n<;>rfl
def aaz(n:Nat)(j:Int):bZ n st .none (.int j)=some false:=by cases n<;>rfl
def ajY(n:Nat)(i:Str)(j:Int):bZ n st (.int j) (.str i)=some false:=by cases n<;>rfl
def Bc{a b:V}{x:Bool}{Q:Bool->ah->Prop}(h:bZ 6 st a b=some x):wp (mH a b) Q st=Q x st:=by unfold wp mH;rw[h]
def aaA{a b:V}{x:Bool}{Q:V->ah->Prop}(h:bZ 6 st a b=some x):wp (cmp .Eq a b) Q st=Q (.bool x) st:=by show wp (bd (mH a b) _) Q st=_;rw[aZ,Bc h,bC]
def xE{a b:V}{x:Bool}{Q:V->ah->Prop}(h:bZ 6 st a b=some x):wp (cmp .NotEq a b) Q st=Q (.bool !x) st:=by show wp (bd (mH a b) _) Q st=_;rw[aZ,Bc h,bC]
def aaB{a b:Th}:tm a=tm b<->a=b:=by refine⟨λh=>u6 ?_,λh=>h▸rfl⟩;exact rb ((E8 3).mp (V.int.inj h))
def Me(a b:Th):bZ 6 st (tm a) (tm b)=some (decide (a=b)):=by rw[tm,tm,rI,eW,decide_eq_decide];have:= @aaB a b;unfold tm at this;rw[V.int.injEq]at this;exact this
def aaC(a:Option Th):bZ 6 st (oz a) (.int 0)=some a.isNone:=by
 cases a with
 |none=>exact rI ..
 |some t=>rw[oz,tm,rI,eW,Option.isNone_some];lia
def aaD(a:Option Th)(t:Th):bZ 6 st (on a) (tm t)=some (decide (a=some t)):=by
 cases a with
 |none=>rw[on,tm,aaz];simp
 |some s=>rw[on,Me];simp
def aaE(w:bR):bZ 6 st (wv w) (.str (aM "arguments"))=some w.isNone:=by
 cases w with
 |none=>rw[wv,Md];simp
 |some m=>rfl
def aaF(a:Option Th):wp (cmp .Is (on a) .none) Q st=Q (.bool a.isNone) st:=by unfold wp;cases a<;>rfl
def Bd{b:Bool}{Q:Bool->ah->Prop}:wp (truthy (.bool b)) Q st=Q b st:=by unfold wp;rfl
section
variable{a b c d e:V}
def Mf:wp (getItem (.tup [a,b]) (.int 0)) Q st=Q a st:=by unfold wp;rfl
end
def fI{α β:Type}{m:M α}{f:α->M β}{a:α}{Q:β->ah->Prop}(h:m st=some (a,st)):wp (bd m f) Q st=wp (f a) Q st:=by unfold wp bd;rw[h]
def gN{o:O}(h:st[l]? =some o):dQ l st=some (o,st):=by unfold dQ;rw[h]
def nu{α:Type}{p:Bool}{m n:M α}{Q:α->ah->Prop}(h:p=true):wp (if p=true then m else n) Q st=wp m Q st:=by rw[if_pos h]
def xF{α:Type}{o:Option α}{a:α}{Q:α->ah->Prop}(h:o=some a):wp (op o) Q st=Q a st:=by rw[h,pZ]
def Fb{cn n:Str}{fs:List (Str×V)}{Q:V->ah->Prop}(h:st[l]? =some (.inst cn fs))(h1:dR n aY.attrs=true)(h2:eV fs n=some v):wp (getAttr aY (.ab l) n) Q st=Q v st:=(fI (gN h)).trans ((nu h1).trans (xF h2))
def aaG [hR:Rep c H st] {n:Str}{Q:V->ah->Prop}(h1:dR n aY.attrs=true)(h2:eV (oH c.ab) n=some v):wp (getAttr aY (.ab (c.ab .inst)) n) Q st=Q v st:=Fb (hR.at' .inst) h1 h2
def aaH [hR:Rep c H st]:wp (getAttr aY (.ab (c.ab .gg)) (aM "term_args")) Q st=Q (.ab (c.ab .gJ)) st:=Fb (hR.at' .gg) rfl hR.base.fa
def aaI [hR:Rep c H st]:wp (getAttr aY (.ab (c.ab .gg)) (aM "term_datas")) Q st=Q (.ab (c.ab .gK)) st:=Fb (hR.at' .gg) rfl hR.base.fd
def Mg [hR:Rep c H st] {n:String}{Q:MK->ah->Prop}(h:n∈["args","data"]):wp (fU (.ab (c.ab .gg)) (aM n)) Q st=Q (.inst (aM "Bank")) st:=(fI (gN (hR.at' .gg))).trans ((nu (congrArg Option.isNone (hR.base.nm n h))).trans bC)
def qa{xs:List V}(h:st[l]? =some (.list xs)){n:Str}{Q:MK->ah->Prop}(hn:(isName "append" n||isName "extend" n||isName "pop" n||isName "count" n)=true):wp (fU (.ab l) n) Q st=Q .list st:=(fI (gN h)).trans ((nu hn).trans bC)
def aaJ{xs:List (V×V)}(h:st[l]? =some (.dict xs ep)){Q:MK->ah->Prop}:wp (fU (.ab l) (aM "get")) Q st=Q .dict st:=(fI (gN h)).trans ((nu rfl).trans bC)
def rJ{p q:Prop} [Decidable p] [Decidable q] (h:p<->q):decide p=decide q:=decide_eq_decide.mpr h
def lb(a b:Th):V.beq (tm a) (tm b)=decide (a=b):=rJ (p:=((a.val:Int)+3=(b.val:Int)+3)) ⟨λh=>u6 (rb ((E8 _).mp h)),λh=>h▸rfl⟩
def mh(a b:aW):V.beq (bJ a) (bJ b)=decide (a=b):=rJ (p:=((a.val:Int)+10=(b.val:Int)+10)) ⟨λh=>u6 (rb ((E8 _).mp h)),λh=>h▸rfl⟩
def Be(a b:Th):V.beq (jw a) (jw b)=decide (a=b):=by show(V.beq (tm a) (tm b) && true)=_;rw[C5,lb]
section
variable[DecidableEq α] {ke:α->V}{ve:β->V}
abbrev ls(l:List (α×β))(a:α)(b:β):List (α×β):=match l with
 |[]=>[(a,b)]
 |p::r=>if p.1=a then(p.1,b)::r else p::ls r a b
abbrev ld(l:List (α×β))(a:α):List (α×β):=match l with
 |[]=>[]
 |p::r=>if p.1=a then r else p::ld r a
variable{p:α×β}{r l:List (α×β)}{a x:α}{b:β}
def aaK:lk (p::r) a=if p.1=a then some p.2 else lk r a:=rfl
def qb(h:p.1=a):lk (p::r) a=some p.2:=if_pos h
def mi(h:¬p.1=a):lk (p::r) a=lk r a:=if_neg h
def Bf(h:p.1=a):ls (p::r) a b=(p.1,b)::r:=if_pos h
def Bg(h:¬p.1=a):ls (p::r) a b=p::ls r a b:=if_neg h
def Fc(h:p.1=a):ld (p::r) a=r:=if_pos h
def Fd(h:¬p.1=a):ld (p::r) a=p::ld r a:=if_neg h
def Fe(hk:∀a b,V.beq (ke a) (ke b)=decide (a=b)){x y:α}(h:x=y):V.beq (ke x) (ke y)=true:=(hk x y).trans (decide_eq_true h)
def Ff(hk:∀a b,V.beq (ke a) (ke b)=decide (a=b)){x y:α}(h:¬x=y):¬V.beq (ke x) (ke y)=true:=λe=>h (of_decide_eq_true ((hk x y).symm.trans e))
def jX(hk:∀a b,V.beq (ke a) (ke b)=decide (a=b))(a:α)(l:List (α×β)):bL (enc ke ve l) (ke a)=(lk l a).map ve:=by
 induction l with
 |nil=>rfl
 |cons p r ih=>
  show(if V.beq (ke p.1) (ke a)=true then some (ve p.2)else bL (enc ke ve r) (ke a))=_;by_cases h:p.1=a
  .rw[if_pos (Fe hk h),qb h];rfl
  .rw[if_neg (Ff hk h),mi h];exact ih
def xG(hk:∀a b,V.beq (ke a) (ke b)=decide (a=b))(a:α)(b:β)(l:List (α×β)):ec (enc ke ve l) (ke a) (ve b)=enc ke ve (ls l a b):=by
 induction l with
 |nil=>rfl
 |cons p r ih=>
  show(if V.beq (ke p.1) (ke a)=true then(ke p.1,ve b)::enc ke ve r else(ke p.1,ve p.2)::ec (enc ke ve r) (ke a) (ve b))=_;by_cases h:p.1=a
  .rw[if_pos (Fe hk h),Bf h];rfl
  .rw[if_neg (Ff hk h),Bg h,ih];rfl
def Fg(hk:∀a b,V.beq (ke a) (ke b)=decide (a=b))(a:α)(l:List (α×β)):iP (enc ke ve l) (ke a)=enc ke ve (ld l a):=by
 induction l with
 |nil=>rfl
 |cons p r ih=>
  show(if V.beq (ke p.1) (ke a)=true then enc ke ve r else(ke p.1,ve p.2)::iP (enc ke ve r) (ke a))=_;by_cases h:p.1=a
  .rw[if_pos (Fe hk h),Fc h]
  .rw[if_neg (Ff hk h),Fd h,ih];rfl
def rK(a x:α)(b:β)(l:List (α×β)):lk (ls l a b) x=if x=a then some b else lk l x:=by
 induction l with
 |nil=>
  show(if a=x then some b else none)=_;by_cases h:x=a
  .rw[if_pos h,if_pos h.symm]
  .rw[if_neg h,if_neg (b0 h)];rfl
 |cons p r ih=>
  by_cases h:p.1=a
  .rw[Bf h];by_cases e:x=a
   .rw[if_pos e];exact qb (h.trans e.symm)
   .have e2:¬p.1=x:=λq=>e (q.symm.trans h);rw[if_neg e,mi e2];exact(mi e2).symm
  .rw[Bg h];by_cases e:p.1=x
   .rw[qb e,if_neg (λq=>h (e.trans q)),qb e]
   .rw[mi e,mi e,ih]
def Mh{x:α}{l:List (α×β)}:x∉l.map (·.1)->lk l x=none:=by
 induction l with
 |nil=>exact λY=>rfl
 |cons p r ih=>exact λh=>(mi λe:p.1=x=>h (e▸dz)).trans (ih λq=>h (dM _ q))
def Mi{x:α}{b:β}{l:List (α×β)}:lk l x=some b->(x,b)∈l:=by
 induction l with
 |nil=>exact λh=>noNS h
 |cons p r ih=>
  intro h;by_cases e:p.1=x
  .rw[qb e]at h;rw[<-e,<-bF h];exact dz
  .rw[mi e]at h;exact dM _ (ih h)
def xH{x:α}{b:β}{l:List (α×β)}:(l.map (·.1)).Nodup->(x,b)∈l->lk l x=some b:=by
 induction l with
 |nil=>exact λY h=>(lR h).elim
 |cons p r ih=>
  intro hn h;have hn:=d0.mp hn;rcases bU.mp h with e|e
  .rw[<-e];exact qb rfl
  .exact(mi λq:p.1=x=>hn.1 (show p.1∈r.map (·.1)from q.symm▸xI (f:=(·.1)) e)).trans (ih hn.2 e)
def Fh(a x:α)(l:List (α×β)):(l.map (·.1)).Nodup->lk (ld l a) x=if x=a then none else lk l x:=by
 induction l with
 |nil=>exact λY=>by by_cases h:x=a;exact(if_pos h).symm;exact(if_neg h).symm
 |cons p r ih=>
  intro hn;have hn:=d0.mp hn;by_cases h:p.1=a
  .rw[Fc h];by_cases e:x=a
   .rw[if_pos e];exact Mh (e.trans h.symm▸hn.1)
   .rw[if_neg e,mi λq=>e (q.symm.trans h)]
  .rw[Fd h];by_cases e:p.1=x
   .rw[qb e,if_neg (λq=>h (e.trans q)),qb e]
   .rw[mi e,mi e,ih hn.2]
def aaL(a:α)(b:β)(l:List (α×β)):∀x,x∈(ls l a b).map (·.1)->x∈l.map (·.1)\/x=a:=by
 induction l with
 |nil=>exact λx h=>.inr (bV.mp h)
 |cons p r ih=>
  intro x h;by_cases e:p.1=a
  .rw[Bf e]at h;exact .inl h
  .rw[Bg e]at h;rcases bU.mp h with h|h
   .exact .inl (h▸dz)
   .exact(ih x h).imp (dM _) id
def xJ(a:α)(b:β)(l:List (α×β)):(l.map (·.1)).Nodup->((ls l a b).map (·.1)).Nodup:=by
 induction l with
 |nil=>exact λY=>d0.mpr ⟨lR,uf⟩
 |cons p r ih=>
  intro h;by_cases e:p.1=a
  .rw[Bf e];exact h
  .rw[Bg e];have h:=d0.mp h;exact d0.mpr ⟨λhm=>(aaL a b r _ hm).elim h.1 e,ih h.2⟩
def aaM(a:α)(l:List (α×β)):(ld l a).Sublist l:=by
 induction l with
 |nil=>exact .slnil
 |cons p r ih=>
  by_cases e:p.1=a
  .rw[Fc e];exact List.sublist_cons_self ..
  .rw[Fd e];exact ih.cons_cons p
def Fi(a:α)(l:List (α×β))(h:(l.map (·.1)).Nodup):((ld l a).map (·.1)).Nodup:=h.sublist ((aaM a l).map _)
end
def nv{α β:Type}{ke:α->V}{ve:β->V}(h:∀a,(ke a).isInt=true)(l:List (α×β)):(enc ke ve l).all (λp=>p.1.isInt)=true:=
 fE.mpr λp hp=>by
  obtain⟨q,_,e⟩:=d4.mp hp;rw[<-e];exact h q.1
def sS(t:Th):(tm t).isInt=true:=rfl
def oI(t:aW):(bJ t).isInt=true:=rfl
def Fj{β:Type}{ve:β->V}(t:Th)(l:List (Th×β)):eB (tm t) (enc tm ve l)=true:=nv sS l
def sU{β:Type}{ve:β->V}(t:aW)(l:List (aW×β)):eB (bJ t) (enc bJ ve l)=true:=nv oI l
def aaN(t:Th):(jw t).isTup=true:=rfl
def Fm{β:Type}{ve:β->V}(t:Th)(l:List (Th×β)):eB (jw t) (enc jw ve l)=true:=by show((jw t).isTup && (enc jw ve l).all λp=>p.1.isTup)=true;simp[enc,aaN]
def Mj(f:Th->V):gM f=enc tm f (things.map λt=>(t,t)):=by simp[gM,enc]
def oJ(t:Th):t∈things:=by revert t;decide
def Fn(t:aW):t∈fZ:=by revert t;decide
def Mk{α:Type} [DecidableEq α] (t:α)(l:List α):t∈l->lk (l.map λt=>(t,t)) t=some t:=by
 induction l with
 |nil=>exact λh=>(lR h).elim
 |cons a r ih=>
  intro h;by_cases e:a=t
  .rw[<-e];exact qb rfl
  .exact(mi e).trans (ih ((bU.mp h).resolve_left (b0 e)))
def xK(f:Th->V)(t:Th):bL (gM f) (tm t)=some (f t):=by rw[Mj,jX lb,Mk t _ (oJ t)];rfl
def ny{kvs:List (V×V)}{Q:V->ah->Prop}(h:st[l]? =some (.dict kvs ep))(h1:eB k kvs=true)(h2:bL kvs k=some v):wp (getItem (.ab l) k) Q st=Q v st:=(fI (gN h)).trans ((nu h1).trans (xF h2))
def u7{f:Th->V}{Q:V->ah->Prop}(h:st[l]? =some (.dict (gM f) ep)):wp (getItem (.ab l) (tm t)) Q st=Q (f t) st:=ny h rfl (xK f t)
def aaO [hR:Rep c H st] (t:Th):wp (getItem (.ab (c.ab .ae)) (tm t)) Q st=Q (tm (H.k.ae t)) st:=u7 (hR.at' .ae)
def aaP [hR:Rep c H st] (t:Th):wp (getItem (.ab (c.ab .members)) (tm t)) Q st=Q (.ab (c.ab (.mem t))) st:=u7 (hR.at' .members)
def aaQ [hR:Rep c H st] (t:Th):wp (getItem (.ab (c.ab .uses)) (tm t)) Q st=Q (.ab (c.ab (.use t))) st:=u7 (hR.at' .uses)
def aaR [hR:Rep c H st] (t:Th):wp (getItem (.ab (c.ab .value)) (tm t)) Q st=Q (oz (H.k.val t)) st:=u7 (hR.at' .value)
def aaS [hR:Rep c H st] (t:Th):wp (getItem (.ab (c.ab .apart)) (tm t)) Q st=Q (.ab (c.ab (.aD t))) st:=u7 (hR.at' .apart)
def aaT [hR:Rep c H st] (t:Th):wp (getItem (.ab (c.ab .watchers)) (tm t)) Q st=Q (.ab (c.ab (.aS t))) st:=u7 (hR.at' .watchers)
def Bh [hR:Rep c H st] (h:H.k.up t=some e):wp (getItem (.ab (c.ab .up)) (tm t)) Q st=Q (rG e) st:=ny (hR.at' .up) (Fj ..) (by rw[jX lb,hR.up,h];rfl)
def aaU(t:aW):bL (fZ.map λt=>(bJ t,.tup [tm (aV t).1,tm (aV t).2])) (bJ t)=some (.tup [tm (aV t).1,tm (aV t).2]):=by have:(fZ.map λt=>(bJ t,.tup [tm (aV t).1,tm (aV t).2]))=enc bJ (λt=>.tup [tm (aV t).1,tm (aV t).2]) (fZ.map λt=>(t,t)):=rfl;rw[this,jX mh,Mk t _ (Fn t)];rfl
def aaV [hR:Rep c H st] (t:aW):wp (getItem (.ab (c.ab .oE)) (bJ t)) Q st=Q (.tup [tm (aV t).1,tm (aV t).2]) st:=ny (hR.at' .oE) rfl (aaU t)
def Ml [hR:Rep c H st] {t:aW}{e:Told}(h:H.k.aA t=some e):wp (getItem (.ab (c.ab .aA)) (bJ t)) Q st=Q (gL e) st:=ny (hR.at' .aA) (sU ..) (by rw[jX mh,hR.aA,h];rfl)
def Mm{xs:List V}{i:Int}(h:st[l]? =some (.list xs))(h1:idx xs.length i=some j)(h2:xs[j]? =some v):wp (getItem (.ab l) (.int i)) Q st=Q v st:=(fI (gN h)).trans (show wp (op ((idx xs.length i).bind λj=>xs[j]?)) Q st=_ from xF ((congrArg (λo:Option Nat=>o.bind λj=>xs[j]?) h1).trans h2))
def u9{kvs:List (V×V)}{Q:Bool->ah->Prop}(h:st[l]? =some (.dict kvs ep))(h1:k.isInt=true)(h2:kvs.all (λp=>p.1.isInt)=true):wp (contains k (.ab l)) Q st=Q (bL kvs k).isSome st:=(fI (gN h)).trans ((nu (by rw[h1,h2];rfl)).trans bC)
def aaW [hR:Rep c H st] {Q:Bool->ah->Prop}:wp (contains (tm t) (.ab (c.ab .ae))) Q st=Q true st:=by rw[u9 (hR.at' .ae) (sS t) rfl,xK];rfl
def aaX [hR:Rep c H st] {Q:Bool->ah->Prop}:wp (contains (tm t) (.ab (c.ab .up))) Q st=Q (H.k.up t).isSome st:=by rw[u9 (hR.at' .up) (sS t) (nv sS _),jX lb,hR.up,Mn]
def aaY [hR:Rep c H st] {t:aW}{Q:Bool->ah->Prop}:wp (contains (bJ t) (.ab (c.ab .aA))) Q st=Q (H.k.aA t).isSome st:=by rw[u9 (hR.at' .aA) (oI t) (nv oI _),jX mh,hR.aA,Mn]
end
end
variable{C:Prop}{γ:Type}
section
abbrev delD(v k:V):M Unit:=bd (tW v k) λd=>bd (op (bL d.2.1 k)) λY=>jH d.1 (.dict (iP d.2.1 k) (d.2.2.map (·+1)))
def aaZ{I:aT}{aa:aO}{r:List Stmt}{Q:Fl×aw->ah->Prop}{st:ah}{o i:Expr}(h:wp (I.ev aa o) (λov au=>wp (I.ev aa i) (λiv aH=>wp (delD ov iv) (λY aQ=>wp (xs I aa r) Q aQ) aH) au) st):wp (xs I aa (.Delete [.Subscript o i p] q::r)) Q st:=by refine p8 ?_;refine aZ.mpr (wp_mono h λov au h=>aZ.mpr (wp_mono h λiv aH h=>aZ.mpr (wp_mono (aZ.mp h) λd aQ h=>aZ.mpr (wp_mono (aZ.mp h) λY b6 h=>aZ.mpr (wp_mono h λY dE h=>bC.mpr h)))))
abbrev upd [DecidableEq α] (f:α->β)(a:α)(b:β):α->β:=λx=>if x=a then b else f x
def bK [DecidableEq α] {f:α->β}{a:α}{b:β}:upd f a b a=b:=if_pos rfl
def bO [DecidableEq α] {f:α->β}{a x:α}{b:β}(h:x≠a):upd f a b x=f x:=if_neg h
def lh(h:same r r=false):C:=cu (h.symm.trans (same_refl r))
def nA{f:Th->α}{x:α}(h:qJ t.val a.val=false):upd f a x t=f t:=bO (λe=>by rw[e,zf]at h;cases h)
abbrev fJ(f:HR->Nat)(r:HR)(l:Nat):HR->Nat:=λx=> @nB (λY=>Nat) (f x) l (same x r)
def sV:fJ f r l r=l:=by unfold fJ;rw[same_refl]
def nC{x:HR}(h:same x r=false):fJ f r l x=f x:=by unfold fJ;rw[h]
def aa0{f:Th->V}(l:List Th):l.Nodup->a∈l->ec (l.map λt=>(tm t,f t)) (tm a) v=l.map λt=>(tm t,upd f a v t):=by
 induction l with
 |nil=>intro _ h;cases h
 |cons b r ih=>
  intro hn hm;rw[d0]at hn;show(if V.beq (tm b) (tm a)=true then(tm b,v)::r.map (λt=>(tm t,f t))else(tm b,f b)::ec (r.map λt=>(tm t,f t)) (tm a) v)=(tm b,upd f a v b)::r.map λt=>(tm t,upd f a v t);by_cases h:b=a
  .rw[if_pos ((lb b a).trans (decide_eq_true h)),h,bK];exact congrArg _ (ES λt ht=>by rw[bO (λe:t=a=>hn.1 (h.trans e.symm▸ht))])
  .rw[if_neg (λe=>h (of_decide_eq_true ((lb b a).symm.trans e))),bO h,ih hn.2 ((bU.mp hm).resolve_left (b0 h))]
def xM:things.Nodup:=by decide
def Fo{f:Th->V}:ec (gM f) (tm a) v=gM (upd f a v):=aa0 things xM (oJ a)
def Mo [DecidableEq α] (g:β->γ)(f:α->β)(a:α)(b:β):upd (λt=>g (f t)) a (g b)=λt=>g (upd f a b t):=by funext t;unfold upd;split<;>rfl
variable{kvs:List (V×V)}
section
variable{st:ah}
def Mq(h:st[l]? =some (.dict kvs ep)):getD (.ab l) st=some ((l,kvs,ep),st):=by show bd (dQ l) _ st=_;unfold bd dQ;rw[h];rfl
def Fp(h:st[l]? =some (.dict kvs ep))(h1:eB k kvs=true):tW (.ab l) k st=some ((l,kvs,ep),st):=by unfold tW bd;rw[Mq h];show(if eB k kvs=true then rt (l,kvs,ep)else er) st=_;rw[if_pos h1];rfl
def rL{x:V}{Q:Unit->ah->Prop}(h:st[l]? =some (.dict kvs ep))(h1:eB k kvs=true)(h2:bL kvs k=some x):
 wp (eU (.ab l) k v) Q st=Q () (st.set l (.dict (ec kvs k v) ep)):=
 (fI (Fp h h1)).trans (Fq (congrArg (λo:Option V=>wp (match o with
 |some _=>jH l (.dict (ec kvs k v) ep)
 |none=>bd (fits (kvs.length+1)) λY=>jH l (.dict (kvs++[(k,v)]) (ep.map (·+1)))) Q st) h2) (xy h))
def qc{Q:Unit->ah->Prop}(h:st[l]? =some (.dict kvs ep))(h1:eB k kvs=true)(h2:bL kvs k=none)(hc:kvs.length+1<=bH):
 wp (eU (.ab l) k v) Q st=Q () (st.set l (.dict (kvs++[(k,v)]) (ep.map (·+1)))):=
 (fI (Fp h h1)).trans (Fq (congrArg (λo:Option V=>wp (match o with
 |some _=>jH l (.dict (ec kvs k v) ep)
 |none=>bd (fits (kvs.length+1)) λY=>jH l (.dict (kvs++[(k,v)]) (ep.map (·+1)))) Q st) h2) (aZ.trans ((p6 hc).trans (xy h))))
def aa1{Q:Unit->ah->Prop}(h:st[l]? =some (.dict [] (some 0)))(h1:eB k []=true):wp (eU (.ab l) k v) Q st=Q () (st.set l (.dict [(k,v)] (some 1))):=qc h h1 rfl (by decide)
def Fs{x:V}{Q:Unit->ah->Prop}(h:st[l]? =some (.dict kvs ep))(h1:eB k kvs=true)(h2:bL kvs k=some x):
 wp (delD (.ab l) k) Q st=Q () (st.set l (.dict (iP kvs k) (ep.map (·+1)))):=(fI (Fp h h1)).trans (aZ.trans ((congrArg (λo:Option V=>wp (op o) _ st) h2).trans (pZ.trans (xy h))))
def Mr:bL kvs k=none->ec kvs k v=kvs++[(k,v)]:=by
 induction kvs with
 |nil=>intro _;rfl
 |cons p r ih=>
  intro h;rw[yT]at h;rw[vR];by_cases e:V.beq p.1 k=true
  .rw[if_pos e]at h;cases h
  .rw[if_neg e]at h;rw[if_neg e,ih h];rfl
def Bi{Q:Unit->ah->Prop}(h:st[l]? =some (.dict kvs ep))(h1:eB k kvs=true)(hc:kvs.length+1<=bH)(hq:∀dY,Q () (st.set l (.dict (ec kvs k v) dY))):
 wp (eU (.ab l) k v) Q st:=by
 cases e:bL kvs k with
 |some x=>rw[rL h h1 e];exact hq ep
 |none=>rw[qc h h1 e hc,<-Mr e];exact hq _
section
variable{Q:Unit->ah->Prop}
def Ms [hR:Rep c H st] (k:∀U,Rep c (H.AV (upd H.k.ae a b)) U->Ev c st c U->Q () U):wp (eU (.ab (c.ab .ae)) (tm a) (tm b)) Q st:=by rw[rL (hR.at' .ae) rfl (xK _ a),Fo,Mo];exact hR.write (H':=(H.AV (upd H.k.ae a b))) (c':=c) .ae rfl (la lh ay (λY Y=>rfl) (λY Y=>rfl) (λY Y=>rfl) (λY Y=>rfl) ay ay ay ay rfl) rfl hR.up hR.jV hR.tab hR.jW hR.aA hR.fk k
def Mt [hR:Rep c H st] {b:Option Th}(k:∀U,Rep c (H.E7 (upd H.k.val a b)) U->Ev c st c U->Q () U):wp (eU (.ab (c.ab .value)) (tm a) (oz b)) Q st:=by rw[rL (hR.at' .value) rfl (xK _ a),Fo,Mo];exact hR.write (H':=(H.E7 (upd H.k.val a b))) (c':=c) .value rfl (la ay lh (λY Y=>rfl) (λY Y=>rfl) (λY Y=>rfl) (λY Y=>rfl) ay ay ay ay rfl) rfl hR.up hR.jV hR.tab hR.jW hR.aA hR.fk k
end
private def oK{l:List (Fin n)}(h:l.Nodup):l.length<=n:=bx (h.length_le_of_subset λx Y=>List.mem_finRange x) (lD List.length_finRange)
def encl{ke:α->V}{ve:β->V}{l:List (α×β)}:(enc ke ve l).length=l.length:=aP ..
section
variable{Q:Unit->ah->Prop}
def Ft{l:List (Fin n×β)}(h:(l.map (·.1)).Nodup):l.length<=n:=by have:=oK h;rwa [aP]at this
def va{uk:List (Th×(Th×bR))}{tk:List (Th×Th)}{dk:List (aW×Told)}{ue te de:Option Nat}{up':Th->Option (Th×bR)}{aa2:Th->Option Th}{Fu:aW->Option Told}(u:same .up r=false->O.dict (enc tm rG uk) ue=obj c H .up)(t:same .table r=false->O.dict (enc jw tm tk) te=obj c H .table)(d:same .aA r=false->O.dict (enc bJ gL dk) de=obj c H .aA):
 ∀r',same r' r=false->obj {c with iF:=uk,xA:=ue,iG:=tk,xB:=te,jv:=dk,xC:=de} {H with k:=⟨H.k.ae,H.k.mem,H.k.use,H.k.val,H.k.aD,H.k.aS,up',aa2,Fu⟩} r'=obj c H r':= @HR.rec _ ay ay ay ay ay ay ay ay ay ay u t ay d ay ay ay ay (λY Y=>rfl) (λY Y=>rfl) (λY Y=>rfl) (λY Y=>rfl)
def Mu [hR:Rep c H st] (k:∀c' U,c'.ab=c.ab->Rep c' (H.u5 (upd H.k.up a (some e))) U->Ev c st c' U->Q () U):wp (eU (.ab (c.ab .up)) (tm a) (rG e)) Q st:=by
 refine Bi (hR.at' .up) (Fj ..) ?_ λdY=> ?_
 .rw[encl];exact bx (mQ (Ft hR.jV)) (by decide)
 rw[xG lb];exact hR.write (H':=(H.u5 (upd H.k.up a (some e)))) (c':={c with iF:=ls c.iF a e,xA:=dY}) .up rfl (va lh ay ay) rfl
  (λt=>by rw[rK,hR.up];rfl) (xJ _ _ _ hR.jV) hR.tab hR.jW hR.aA hR.fk (λU x y=>k _ U (by rfl) x y)
def Mv [hR:Rep c H st] {e:Th}(k:∀c' U,c'.ab=c.ab->Rep c' (H.AZ (upd H.k.tab a (some e))) U->Ev c st c' U->Q () U):wp (eU (.ab (c.ab .table)) (jw a) (tm e)) Q st:=by
 refine Bi (hR.at' .table) (Fm ..) ?_ λdY=> ?_
 .rw[encl];exact bx (mQ (Ft hR.jW)) (by decide)
 rw[xG Be];exact hR.write (H':=(H.AZ (upd H.k.tab a (some e)))) (c':={c with iG:=ls c.iG a e,xB:=dY}) .table rfl (va ay lh ay) rfl
  hR.up hR.jV (λt=>by rw[rK,hR.tab];rfl) (xJ _ _ _ hR.jW) hR.aA hR.fk (λU x y=>k _ U (by rfl) x y)
def Mw [hR:Rep c H st] {a:aW}{e:Told}(k:∀c' U,c'.ab=c.ab->c'.iF=c.iF->c'.iG=c.iG->Rep c' (H.Ba (upd H.k.aA a (some e))) U->Ev c st c' U->Q () U):wp (eU (.ab (c.ab .aA)) (bJ a) (gL e)) Q st:=by
 refine Bi (hR.at' .aA) (sU ..) ?_ λdY=> ?_
 .rw[encl];exact bx (mQ (Ft hR.fk)) (by decide)
 rw[xG mh];exact hR.write (H':=(H.Ba (upd H.k.aA a (some e)))) (c':={c with jv:=ls c.jv a e,xC:=dY}) .aA rfl (va ay ay lh) rfl
  hR.up hR.jV hR.tab hR.jW (λt=>by rw[rK,hR.aA];rfl) (xJ _ _ _ hR.fk) (λU x y=>k _ U (by rfl) (by rfl) (by rfl) x y)
def Mx [hR:Rep c H st] (he:H.k.up a=some e)(k:∀c' U,c'.ab=c.ab->Rep c' (H.u5 (upd H.k.up a none)) U->Ev c st c' U->Q () U):wp (delD (.ab (c.ab .up)) (tm a)) Q st:=by
 rw[Fs (hR.at' .up) (Fj ..) (by rw[jX lb,hR.up,he];rfl),Fg lb];exact hR.write (H':=(H.u5 (upd H.k.up a none))) (c':={c with iF:=ld c.iF a,xA:=c.xA.map (·+1)}) .up rfl (va lh ay ay) rfl
  (λt=>by rw[Fh _ _ _ hR.jV,hR.up];rfl) (Fi _ _ hR.jV) hR.tab hR.jW hR.aA hR.fk (λU x y=>k _ U (by rfl) x y)
def My [hR:Rep c H st] {e:Th}(he:H.k.tab a=some e)(k:∀c' U,c'.ab=c.ab->Rep c' (H.AZ (upd H.k.tab a none)) U->Ev c st c' U->Q () U):wp (delD (.ab (c.ab .table)) (jw a)) Q st:=by
 rw[Fs (hR.at' .table) (Fm ..) (by rw[jX Be,hR.tab,he];rfl),Fg Be];exact hR.write (H':=(H.AZ (upd H.k.tab a none))) (c':={c with iG:=ld c.iG a,xB:=c.xB.map (·+1)}) .table rfl (va ay lh ay) rfl
  hR.up hR.jV (λt=>by rw[Fh _ _ _ hR.jW,hR.tab];rfl) (Fi _ _ hR.jW) hR.aA hR.fk (λU x y=>k _ U (by rfl) x y)
def aa3 [hR:Rep c H st] {a:aW}{e:Told}(he:H.k.aA a=some e)(k:∀c' U,c'.ab=c.ab->Rep c' (H.Ba (upd H.k.aA a none)) U->Ev c st c' U->Q () U):wp (delD (.ab (c.ab .aA)) (bJ a)) Q st:=by
 rw[Fs (hR.at' .aA) (sU ..) (by rw[jX mh,hR.aA,he];rfl),Fg mh];exact hR.write (H':=(H.Ba (upd H.k.aA a none))) (c':={c with jv:=ld c.jv a,xC:=c.xC.map (·+1)}) .aA rfl (va ay ay lh) rfl
  hR.up hR.jV hR.tab hR.jW (λt=>by rw[Fh _ _ _ hR.fk,hR.aA];rfl) (Fi _ _ hR.fk) (λU x y=>k _ U (by rfl) x y)
def Fv(hR:Rep c H st)(H':aB){xs vb:List V}(h1:obj c H r= .list xs)(h2:obj c H' r= .list vb)(ho:∀r',same r' r=false->obj c H' r'=obj c H r')(hb:H'.b=H.b)
 (hu:H'.k.up=H.k.up) (ht:H'.k.tab=H.k.tab) (hd:H'.k.aA=H.k.aA) (hc:vb.length<=bH) (k:∀U,Rep c H' U->Ev c st c U->Q () U):wp (gE (c.ab r) vb) Q st:=by
 rw[AU (by rw[hR.at' r,h1]) (hR.pos r) hc,<-h2];exact hR.write (H':=H') (c':=c) r rfl ho hb (λt=>by rw[hu];exact hR.up t) hR.jV (λt=>by rw[ht];exact hR.tab t) hR.jW (λt=>by rw[hd];exact hR.aA t) hR.fk (P:=λst=>Q () st) k
end
section
variable{I:aT}
def aa4{xs:List V}:vW l xs (aM "append") [v]=bd (gE l (xs++[v])) λY=>rt .none:=rfl
def aa5{xs:List V}:vW l xs (aM "extend") [v]=bd (getL v) λp=>if¬p.1=l then bd (gE l (xs++p.2)) λY=>rt .none else er:=rfl
def aa6{xs:List V}:vW l xs (aM "pop") []=bd (op xs.getLast?) λv=>bd (gE l xs.dropLast) λY=>rt v:=rfl
def xN(hR:Rep c H st)(H':aB){xs:List V}(h1:obj c H r= .list xs)(h2:obj c H' r= .list (xs++[v]))(ho:∀r',same r' r=false->obj c H' r'=obj c H r')(hb:H'.b=H.b)
 (hu:H'.k.up=H.k.up) (ht:H'.k.tab=H.k.tab) (hd:H'.k.aA=H.k.aA) (hc:xs.length+1<=bH) (k:∀U,Rep c H' U->Ev c st c U->Q .none U):wp (eC I .list (.ab (c.ab r)) (aM "append") [v]) Q st:=by
 show wp (bd (getL _) _) Q st;rw[aZ,d5 (by rw[hR.at' r,h1]),aa4,aZ];exact Fv hR H' h1 h2 ho hb hu ht hd (rwE bM hc) λU a b=>bC.mpr (k U a b)
def sW [hR:Rep c H st] {e:Ent}(hv:v=rH e)(hc:H.b.cN.length+H.aU.length+1<=bH)(k:∀U,Rep c {H with aU:=H.aU++[e]} U->Ev c st c U->Q .none U):
 wp (eC I .list (.ab (c.ab .aU)) (aM "append") [v]) Q st:=xN hR {H with aU:=H.aU++[e]} rfl (hv▸congrArg O.list ((congrArg (H.b.cN++·) cD).trans (pV ..).symm)) (la ay ay (λY Y=>rfl) (λY Y=>rfl) (λY Y=>rfl) (λY Y=>rfl) ay ay lh ay rfl) rfl rfl rfl rfl (by rw[bM,aP];exact hc) k
def Mz [hR:Rep c H st] {e:aW}(hc:H.bk.length+1<=bH)(k:∀U,Rep c {H with bk:=H.bk++[e]} U->Ev c st c U->Q .none U):
 wp (eC I .list (.ab (c.ab .bk)) (aM "append") [bJ e]) Q st:=xN hR {H with bk:=H.bk++[e]} rfl (congrArg O.list cD) (la ay ay (λY Y=>rfl) (λY Y=>rfl) (λY Y=>rfl) (λY Y=>rfl) lh ay ay ay rfl) rfl rfl rfl rfl (by rw[aP];exact hc) k
def MA [hR:Rep c H st] {e:Th×Th×bR}(hv:v=Bb e)(hc:H.aN.length+1<=bH)(k:∀U,Rep c {H with aN:=H.aN++[e]} U->Ev c st c U->Q .none U):
 wp (eC I .list (.ab (c.ab .aN)) (aM "append") [v]) Q st:=xN hR {H with aN:=H.aN++[e]} rfl (hv▸congrArg O.list cD) (la ay ay (λY Y=>rfl) (λY Y=>rfl) (λY Y=>rfl) (λY Y=>rfl) ay lh ay ay rfl) rfl rfl rfl rfl (by rw[aP];exact hc) k
def aa7 [hR:Rep c H st] {e:Nat}(hv:v=nat e)(hc:H.bt.length+1<=bH)(k:∀U,Rep c {H with bt:=H.bt++[e]} U->Ev c st c U->Q .none U):
 wp (eC I .list (.ab (c.ab .bt)) (aM "append") [v]) Q st:=xN hR {H with bt:=H.bt++[e]} rfl (hv▸congrArg O.list cD) (la ay ay (λY Y=>rfl) (λY Y=>rfl) (λY Y=>rfl) (λY Y=>rfl) ay ay ay lh rfl) rfl rfl rfl rfl (by rw[aP];exact hc) k
def MB [hR:Rep c H st] {e:Sep}(hv:v=gY e)(hc:(H.k.aD t).length+1<=bH)(k:∀U,Rep c (H.rF (upd H.k.aD t (H.k.aD t++[e]))) U->Ev c st c U->Q .none U):
 wp (eC I .list (.ab (c.ab (.aD t))) (aM "append") [v]) Q st:=
 xN hR (H.rF (upd H.k.aD t (H.k.aD t++[e]))) rfl (hv▸congrArg O.list ((congrArg (eJ gY) bK).trans cD))
  (la ay ay (λY Y=>rfl) (λY Y=>rfl) (λY h=>nA h) (λY Y=>rfl) ay ay ay ay rfl) rfl rfl rfl rfl (by rw[aP];exact hc) k
def Bj(hR:Rep c H st){r2:HR}(ba:r2≠r)(H':aB){xs ys:List V}(h1:obj c H r= .list xs)(h3:obj c H r2= .list ys)(h2:obj c H' r= .list (xs++ys))(ho:∀r',same r' r=false->obj c H' r'=obj c H r')(hb:H'.b=H.b)
 (hu:H'.k.up=H.k.up) (ht:H'.k.tab=H.k.tab) (hd:H'.k.aA=H.k.aA) (hc:xs.length+ys.length<=bH) (k:∀U,Rep c H' U->Ev c st c U->Q .none U):wp (eC I .list (.ab (c.ab r)) (aM "extend") [.ab (c.ab r2)]) Q st:=by
 show wp (bd (getL _) _) Q st;rw[aZ,d5 (by rw[hR.at' r,h1]),aa5,aZ,d5 (by rw[hR.at' r2,h3]),if_pos (λe=>ba (hR.inj _ _ e)),aZ];exact Fv hR H' h1 h2 ho hb hu ht hd (rwE bM hc) λU a b=>bC.mpr (k U a b)
def aa8 [hR:Rep c H st] (ba:b≠a)(hc:(H.k.mem a).length+(H.k.mem b).length<=bH)(k:∀U,Rep c (H.AW (upd H.k.mem a (H.k.mem a++H.k.mem b))) U->Ev c st c U->Q .none U):
 wp (eC I .list (.ab (c.ab (.mem a))) (aM "extend") [.ab (c.ab (.mem b))]) Q st:=
 Bj hR (λe=>ba (HR.mem.inj e)) (H.AW (upd H.k.mem a (H.k.mem a++H.k.mem b))) rfl rfl (congrArg O.list ((congrArg (eJ tm) bK).trans cD))
  (la ay ay (λY h=>nA h) (λY Y=>rfl) (λY Y=>rfl) (λY Y=>rfl) ay ay ay ay rfl) rfl rfl rfl rfl (by rw[aP,aP];exact hc) k
def aa9 [hR:Rep c H st] (ba:b≠a)(hc:(H.k.use a).length+(H.k.use b).length<=bH)(k:∀U,Rep c (H.AX (upd H.k.use a (H.k.use a++H.k.use b))) U->Ev c st c U->Q .none U):
 wp (eC I .list (.ab (c.ab (.use a))) (aM "extend") [.ab (c.ab (.use b))]) Q st:=
 Bj hR (λe=>ba (HR.use.inj e)) (H.AX (upd H.k.use a (H.k.use a++H.k.use b))) rfl rfl (congrArg O.list ((congrArg (eJ tm) bK).trans cD))
  (la ay ay (λY Y=>rfl) (λY h=>nA h) (λY Y=>rfl) (λY Y=>rfl) ay ay ay ay rfl) rfl rfl rfl rfl (by rw[aP,aP];exact hc) k
def aa' [hR:Rep c H st] (ba:b≠a)(hc:(H.k.aD a).length+(H.k.aD b).length<=bH)(k:∀U,Rep c (H.rF (upd H.k.aD a (H.k.aD a++H.k.aD b))) U->Ev c st c U->Q .none U):
 wp (eC I .list (.ab (c.ab (.aD a))) (aM "extend") [.ab (c.ab (.aD b))]) Q st:=
 Bj hR (λe=>ba (HR.aD.inj e)) (H.rF (upd H.k.aD a (H.k.aD a++H.k.aD b))) rfl rfl (congrArg O.list ((congrArg (eJ gY) bK).trans cD))
  (la ay ay (λY Y=>rfl) (λY Y=>rfl) (λY h=>nA h) (λY Y=>rfl) ay ay ay ay rfl) rfl rfl rfl rfl (by rw[aP,aP];exact hc) k
def aba [hR:Rep c H st] (ba:b≠a)(hc:(H.k.aS a).length+(H.k.aS b).length<=bH)(k:∀U,Rep c (H.AY (upd H.k.aS a (H.k.aS a++H.k.aS b))) U->Ev c st c U->Q .none U):
 wp (eC I .list (.ab (c.ab (.aS a))) (aM "extend") [.ab (c.ab (.aS b))]) Q st:=
 Bj hR (λe=>ba (HR.aS.inj e)) (H.AY (upd H.k.aS a (H.k.aS a++H.k.aS b))) rfl rfl (congrArg O.list ((congrArg (eJ bJ) bK).trans cD))
  (la ay ay (λY Y=>rfl) (λY Y=>rfl) (λY Y=>rfl) (λY h=>nA h) ay ay ay ay rfl) rfl rfl rfl rfl (by rw[aP,aP];exact hc) k
def MC(hR:Rep c H st)(H':aB){xs:List V}(h1:obj c H r= .list (xs++[v]))(h2:obj c H' r= .list xs)(ho:∀r',same r' r=false->obj c H' r'=obj c H r')(hb:H'.b=H.b)
 (hu:H'.k.up=H.k.up) (ht:H'.k.tab=H.k.tab) (hd:H'.k.aA=H.k.aA) (hc:xs.length<=bH) (k:∀U,Rep c H' U->Ev c st c U->Q v U):wp (eC I .list (.ab (c.ab r)) (aM "pop") []) Q st:=by
 show wp (bd (getL _) _) Q st;rw[aZ,d5 (by rw[hR.at' r,h1]),aa6];rw[aZ,abb,pZ,aZ,Fw];exact Fv hR H' h1 h2 ho hb hu ht hd hc λU a b=>bC.mpr (k U a b)
def abc [hR:Rep c H st] {e:Ent}{tr:List Ent}(he:H.aU=tr++[e])(hc:H.b.cN.length+tr.length<=bH)(k:∀U,Rep c {H with aU:=tr} U->Ev c st c U->Q (rH e) U):
 wp (eC I .list (.ab (c.ab .aU)) (aM "pop") []) Q st:=MC hR (xs:=H.b.cN++tr.map rH) {H with aU:=tr} (by rw[show obj c H .aU= .list (H.b.cN++H.aU.map rH)from rfl,he,cD];exact congrArg O.list (pV ..).symm) rfl (la ay ay (λY Y=>rfl) (λY Y=>rfl) (λY Y=>rfl) (λY Y=>rfl) ay ay lh ay rfl) rfl rfl rfl rfl (by rw[bM,aP];exact hc) k
def MD [hR:Rep c H st] {e:Sep}{l:List Sep}(he:H.k.aD t=l++[e])(hc:l.length<=bH)(k:∀U,Rep c (H.rF (upd H.k.aD t l)) U->Ev c st c U->Q (gY e) U):
 wp (eC I .list (.ab (c.ab (.aD t))) (aM "pop") []) Q st:=MC hR (xs:=l.map gY) (H.rF (upd H.k.aD t l)) (by rw[show obj c H (.aD t)= .list ((H.k.aD t).map gY)from rfl,he,cD];rfl) (congrArg (λl=>O.list (eJ gY l)) bK) (la ay ay (λY Y=>rfl) (λY Y=>rfl) (λY h=>nA h) (λY Y=>rfl) ay ay ay ay rfl) rfl rfl rfl rfl (by rw[aP];exact hc) k
end
end
end
variable{dh:ah}
section
section
variable{st:ah}{c0:ck}
def fm [hR:Rep c H st] {xs:List V}{Q:V->ah->Prop}(h:xs.length<=bH)(k:∀l U,Rep c H U->Pre st U->Off c U l->st.length<=l->U[l]? =some (.list xs)->Q (.ab l) U):wp (cg xs) Q st:=by rw[EZ h];exact k _ _ (hR.grow _) (.app _ _) (hR.off _) (bG _) Fx
def ME [hR:Rep c H st] {kvs:List (V×V)}{Q:V->ah->Prop}(k:∀l U,Rep c H U->Pre st U->Off c U l->st.length<=l->U[l]? =some (.dict kvs ep)->Q (.ab l) U):wp (je (.dict kvs ep)) Q st:=by rw[AS];exact k _ _ (hR.grow _) (.app _ _) (hR.off _) (bG _) Fx
structure qd(l:Nat)(c:ck)(st:ah)(c':ck)(U:ah):Prop where
 get:∀k,Off c st k->k≠l->U[k]? =st[k]?
 off:∀k,Off c st k->k≠l->Off c' U k
def oM(h:true=false):C:=cu h
def Bl(hR:Rep c H st)(E:Ev c0 dh c st){xs:List V}(r h:HR)(hl:dh.length<=l)(ho:Off c st l)(hg:st[l]? =some (.list xs))(H':aB)(MF:same h r=false)(hf:same .gJ r=false)(wQ:same .gK r=false)(vc:same .inst r=false)
 (h1:obj {c with ab:=fJ c.ab r l} H' r= .list xs) (fY:∀r',(same r' h||same r' r)=false->obj {c with ab:=fJ c.ab r l} H' r'=obj c H r') (hb:H'.b=H.b)
 (hu:H'.k.up=H.k.up) (ht:H'.k.tab=H.k.tab) (hd:H'.k.aA=H.k.aA) {Q:Unit->ah->Prop}
 (k:∀c' U,Rep c' H' U->Ev c0 dh c' U->qd l c st c' U->Q () U):
 Q () (st.set (c.ab h) (obj {c with ab:=fJ c.ab r l} H' h)):=by
 refine k {c with ab:=fJ c.ab r l} _ ⟨λa b e=> ?_,λr'=> ?_, ?_,λt=>by rw[hu];exact hR.up t,hR.jV,λt=>by rw[ht];exact hR.tab t,hR.jW,λt=>by rw[hd];exact hR.aA t,hR.fk,λr'=> ?_⟩ ⟨λk hk=> ?_,λr'=> ?_,by rw[lP];exact E.len,by rw[<-E.inst];exact nC vc⟩
  ⟨λk hk zM=>mN (hk.ne h),λk hk zM=>⟨by rw[lP];exact hk.lt,λr'=> ?_,hk.nz⟩⟩
 .replace e:fJ c.ab r l a=fJ c.ab r l b:=e;cases ha:same a r with
  |true=>
   cases hb:same b r with
   |true=>exact(oG ha).trans (oG hb).symm
   |false=>rw[oG ha,sV,nC hb]at e;exact absurd e.symm (ho.ne b)
  |false=>
   rw[nC ha]at e;cases hb:same b r with
   |true=>rw[oG hb,sV]at e;exact absurd e (ho.ne a)
   |false=>rw[nC hb]at e;exact hR.inj _ _ e
 .show(st.set _ _)[fJ c.ab r l r']? =_;cases hr:same r' r with
  |true=>rw[oG hr,sV,mN (ho.ne h),hg,h1]
  |false=>
   rw[nC hr];cases hh:same r' h with
   |true=>rw[oG hh];exact CQ (hR.lt h)
   |false=>rw[mN (λe=>by rw[<-hR.inj _ _ e,same_refl]at hh;cases hh),fY r' (by rw[hr,hh];rfl)];exact hR.at' r'
 .have b:=hR.base;rw[hb];exact⟨b.fa.trans (congrArg (λn=>some (V.ab n)) (nC hf).symm),b.fd.trans (congrArg (λn=>some (V.ab n)) (nC wQ).symm),b.nm,b.a6,b.a7,b.d6,b.d7⟩
 .show fJ c.ab r l r'≠0;cases hr:same r' r with
  |true=>rw[oG hr,sV];exact ho.nz
  |false=>rw[nC hr];exact hR.pos r'
 .exact(mN ((E.off hk).ne h)).trans (E.get k hk)
 .show(∃a,fJ c.ab r l r'=c0.ab a)\/dh.length<=fJ c.ab r l r';cases hr:same r' r with
  |true=>rw[oG hr,sV];exact .inr hl
  |false=>rw[nC hr];exact E.ab r'
 .show fJ c.ab r l r'≠k;cases hr:same r' r with
  |true=>rw[oG hr,sV];exact b0 zM
  |false=>rw[nC hr];exact hk.ne r'
section
variable{Q:Unit->ah->Prop}
def Fy [hR:Rep c H st] {n:Str}{f:List (Str×V)}(h1:dR n aY.attrs=true)(h2:nV (oH c.ab) n v=f)(k:Q () (st.set (c.ab .inst) (.inst (aM "Congruence") f))):wp (setAttr aY (.ab (c.ab .inst)) n v) Q st:=by have h4:=hR.at' .inst;unfold setAttr;rw[aZ,AR h4];show wp (if dR n aY.attrs && true then jH (c.ab .inst) (.inst (aM "Congruence") (nV (oH c.ab) n v))else er) Q st;rw[h1,h2];exact(xy h4).mpr k
def abd [hR:Rep c H st] (E:Ev c0 dh c st){xs:List aW}(hl:dh.length<=l)(ho:Off c st l)(hg:st[l]? =some (.list (xs.map bJ)))
 (k:∀c' U,Rep c' {H with bk:=xs} U->Ev c0 dh c' U->qd l c st c' U->Q () U):wp (setAttr aY (.ab (c.ab .inst)) (aM "news") (.ab l)) Q st:=Fy (f:=oH (fJ c.ab .bk l)) rfl rfl (Bl hR E .bk .inst hl ho hg {H with bk:=xs} rfl rfl rfl rfl rfl (@HR.rec _ oM ay ay ay ay ay ay ay ay ay ay ay ay ay oM ay ay ay (λY Y=>rfl) (λY Y=>rfl) (λY Y=>rfl) (λY Y=>rfl)) rfl rfl rfl rfl k)
def MG [hR:Rep c H st] (E:Ev c0 dh c st){xs:List (Th×Th×bR)}(hl:dh.length<=l)(ho:Off c st l)(hg:st[l]? =some (.list (xs.map Bb)))
 (k:∀c' U,Rep c' {H with aN:=xs} U->Ev c0 dh c' U->qd l c st c' U->Q () U):wp (setAttr aY (.ab (c.ab .inst)) (aM "queue") (.ab l)) Q st:=Fy (f:=oH (fJ c.ab .aN l)) rfl rfl (Bl hR E .aN .inst hl ho hg {H with aN:=xs} rfl rfl rfl rfl rfl (@HR.rec _ oM ay ay ay ay ay ay ay ay ay ay ay ay ay ay oM ay ay (λY Y=>rfl) (λY Y=>rfl) (λY Y=>rfl) (λY Y=>rfl)) rfl rfl rfl rfl k)
def abe [hR:Rep c H st] (E:Ev c0 dh c st){xs:List Nat}(hl:dh.length<=l)(ho:Off c st l)(hg:st[l]? =some (.list (xs.map nat)))
 (k:∀c' U,Rep c' {H with bt:=xs} U->Ev c0 dh c' U->qd l c st c' U->Q () U):wp (setAttr aY (.ab (c.ab .inst)) (aM "marks") (.ab l)) Q st:=Fy (f:=oH (fJ c.ab .bt l)) rfl rfl (Bl hR E .bt .inst hl ho hg {H with bt:=xs} rfl rfl rfl rfl rfl (@HR.rec _ oM ay ay ay ay ay ay ay ay ay ay ay ay ay ay ay ay oM (λY Y=>rfl) (λY Y=>rfl) (λY Y=>rfl) (λY Y=>rfl)) rfl rfl rfl rfl k)
def abf{g:Th->HR}(hs:∀x y,same (g x) (g y)=qJ x.val y.val):upd (λt=>V.ab (f (g t))) a (V.ab l)=λt=>V.ab (fJ f (g a) l (g t)):=by
 funext t;cases h:qJ t.val a.val with
 |true=>rw[u6 (v9 h),bK,sV]
 |false=>rw[nA h,nC ((hs t a).trans h)]
def Bm [hR:Rep c H st] (E:Ev c0 dh c st){xs:List V}(g:Th->HR)(h:HR)(hl:dh.length<=l)(ho:Off c st l)(hg:st[l]? =some (.list xs))(H':aB)
 (hs:∀x y,same (g x) (g y)=qJ x.val y.val) (mK:obj c H h= .dict (gM λt=>.ab (c.ab (g t))) (c.ep h)) (abg:obj {c with ab:=fJ c.ab (g a) l} H' h= .dict (gM λt=>.ab (fJ c.ab (g a) l (g t))) (c.ep h))
 (MF:same h (g a)=false) (hf:same .gJ (g a)=false) (wQ:same .gK (g a)=false) (vc:same .inst (g a)=false)
 (h1:obj {c with ab:=fJ c.ab (g a) l} H' (g a)= .list xs) (fY:∀r',(same r' h||same r' (g a))=false->obj {c with ab:=fJ c.ab (g a) l} H' r'=obj c H r') (hb:H'.b=H.b)
 (hu:H'.k.up=H.k.up) (ht:H'.k.tab=H.k.tab) (hd:H'.k.aA=H.k.aA)
 (k:∀c' U,Rep c' H' U->Ev c0 dh c' U->qd l c st c' U->Q () U):wp (eU (.ab (c.ab h)) (tm a) (.ab l)) Q st:=by
 have q:=Bl hR E (g a) h hl ho hg H' MF hf wQ vc h1 fY hb hu ht hd k;rw[abg]at q;have e:=hR.at' h;rw[mK]at e;rw[rL e rfl (xK _ a),Fo,abf hs];exact q
def abh [hR:Rep c H st] (E:Ev c0 dh c st){xs:List Th}(hl:dh.length<=l)(ho:Off c st l)(hg:st[l]? =some (.list (xs.map tm)))
 (k:∀c' U,Rep c' (H.AW (upd H.k.mem a xs)) U->Ev c0 dh c' U->qd l c st c' U->Q () U):wp (eU (.ab (c.ab .members)) (tm a) (.ab l)) Q st:=Bm E .mem .members hl ho hg (H.AW (upd H.k.mem a xs)) (λY Y=>rfl) rfl rfl rfl rfl rfl rfl (congrArg (λl=>O.list (eJ tm l)) bK) (@HR.rec _ ay ay ay ay ay oM ay ay ay ay ay ay ay ay ay ay ay ay (λY h=>congrArg (λl=>O.list (eJ tm l)) (nA h)) (λY Y=>rfl) (λY Y=>rfl) (λY Y=>rfl)) rfl rfl rfl rfl k
def abi [hR:Rep c H st] (E:Ev c0 dh c st){xs:List Th}(hl:dh.length<=l)(ho:Off c st l)(hg:st[l]? =some (.list (xs.map tm)))
 (k:∀c' U,Rep c' (H.AX (upd H.k.use a xs)) U->Ev c0 dh c' U->qd l c st c' U->Q () U):wp (eU (.ab (c.ab .uses)) (tm a) (.ab l)) Q st:=Bm E .use .uses hl ho hg (H.AX (upd H.k.use a xs)) (λY Y=>rfl) rfl rfl rfl rfl rfl rfl (congrArg (λl=>O.list (eJ tm l)) bK) (@HR.rec _ ay ay ay ay ay ay oM ay ay ay ay ay ay ay ay ay ay ay (λY Y=>rfl) (λY h=>congrArg (λl=>O.list (eJ tm l)) (nA h)) (λY Y=>rfl) (λY Y=>rfl)) rfl rfl rfl rfl k
def abj [hR:Rep c H st] (E:Ev c0 dh c st){xs:List Sep}(hl:dh.length<=l)(ho:Off c st l)(hg:st[l]? =some (.list (xs.map gY)))
 (k:∀c' U,Rep c' (H.rF (upd H.k.aD a xs)) U->Ev c0 dh c' U->qd l c st c' U->Q () U):wp (eU (.ab (c.ab .apart)) (tm a) (.ab l)) Q st:=Bm E .aD .apart hl ho hg (H.rF (upd H.k.aD a xs)) (λY Y=>rfl) rfl rfl rfl rfl rfl rfl (congrArg (λl=>O.list (eJ gY l)) bK) (@HR.rec _ ay ay ay ay ay ay ay ay oM ay ay ay ay ay ay ay ay ay (λY Y=>rfl) (λY Y=>rfl) (λY h=>congrArg (λl=>O.list (eJ gY l)) (nA h)) (λY Y=>rfl)) rfl rfl rfl rfl k
def abk [hR:Rep c H st] (E:Ev c0 dh c st){xs:List aW}(hl:dh.length<=l)(ho:Off c st l)(hg:st[l]? =some (.list (xs.map bJ)))
 (k:∀c' U,Rep c' (H.AY (upd H.k.aS a xs)) U->Ev c0 dh c' U->qd l c st c' U->Q () U):wp (eU (.ab (c.ab .watchers)) (tm a) (.ab l)) Q st:=Bm E .aS .watchers hl ho hg (H.AY (upd H.k.aS a xs)) (λY Y=>rfl) rfl rfl rfl rfl rfl rfl (congrArg (λl=>O.list (eJ bJ l)) bK) (@HR.rec _ ay ay ay ay ay ay ay ay ay oM ay ay ay ay ay ay ay ay (λY Y=>rfl) (λY Y=>rfl) (λY Y=>rfl) (λY h=>congrArg (λl=>O.list (eJ bJ l)) (nA h))) rfl rfl rfl rfl k
end
end
end
variable{r:Th}{k:Nat}{e:Ent}{R:WRecords}{T0:Type}{test:aw→M Bool}
section
variable{body:V->M (List V)}
section
variable{st:ah}
def abl{body:V->aw->M (Fl×aw)}{Q:Fl×aw->ah->Prop}{xs:List V}(Inv:Nat->aw->ah->Prop)
 (hs:∀i aj st (P:Option V->ah->Prop),Inv i aj st->wp (nX src i) P st=P xs[i]? st)
 (hb:∀i aj st v,xs[i]? =some v->Inv i aj st->wp (body v aj) (lq (Inv (i+1)) Q) st)
 (he:∀aj st,Inv xs.length aj st->Q (.next,aj) st) (k:Nat):∀(i:Nat) (aj:aw) (st:ah),Inv i aj st->i<=xs.length->xs.length<k+i->wp (forL src body k i aj) Q st:=by
 induction k with
 |zero=>exact λi Y Y Y hle h=>absurd (eM h (bx (lD (nP i)) hle)) (qW _)
 |succ k ih=>
  intro i aj st hi hle h;refine(aZ.trans (hs i aj st _ hi)).mpr ?_;cases e:xs[i]? with
  |none=>exact bC.mpr (he _ _ (dU hle (pP.mp e)▸hi))
  |some v=>
   refine aZ.mpr (wp_mono (hb i aj st v e hi) λr U hr=> ?_);obtain⟨f,vs⟩:=r;cases f with
   |next=>exact ih (i+1) vs U hr (b9.mp e).1 (Fz k i▸h)
   |ret w=>exact bC.mpr hr
def abm{l:Nat}{xs:List V}{body:V->aw->M (Fl×aw)}{Q:Fl×aw->ah->Prop}{aj:aw}(Inv:Nat->aw->ah->Prop)(h0:Inv 0 aj st)(hk:xs.length<bp)
 (hl:∀i aj st,Inv i aj st->st[l]? =some (.list xs))
 (hb:∀i aj st v,xs[i]? =some v->Inv i aj st->wp (body v aj) (lq (Inv (i+1)) Q) st)
 (he:∀aj st,Inv xs.length aj st->Q (.next,aj) st):wp (forL (.list l) body bp 0 aj) Q st:=abl Inv (λi aj st P h=>by exact(fI (gN (hl i aj st h))).trans bC) hb he bp 0 aj st h0 (dJ _) hk
def abn{Q:List V->ah->Prop}{xs:List V}(Inv:Nat->List V->ah->Prop)
 (hs:∀i acc st (P:Option V->ah->Prop),Inv i acc st->wp (nX src i) P st=P xs[i]? st)
 (hb:∀i acc st v,xs[i]? =some v->Inv i acc st->wp (body v) (λr U=>acc.length+r.length<=bH/\Inv (i+1) (acc++r) U) st)
 (he:∀acc st,Inv xs.length acc st->Q acc st) (k:Nat):∀(i:Nat) (acc:List V) (st:ah),Inv i acc st->i<=xs.length->xs.length<k+i->wp (fB src body k i acc) Q st:=by
 induction k with
 |zero=>exact λi Y Y Y hle h=>absurd (eM h (bx (lD (nP i)) hle)) (qW _)
 |succ k ih=>
  intro i acc st hi hle h;refine(aZ.trans (hs i acc st _ hi)).mpr ?_;cases e:xs[i]? with
  |none=>exact bC.mpr (he _ _ (dU hle (pP.mp e)▸hi))
  |some v=>exact aZ.mpr (wp_mono (hb i acc st v e hi) λr U hr=>(aZ.trans (p6 hr.1)).mpr (ih (i+1) (acc++r) U hr.2 (b9.mp e).1 (Fz k i▸h)))
def abo{xs:List V}{Q:List V->ah->Prop}(Inv:Nat->List V->ah->Prop)(h0:Inv 0 [] st)(hk:xs.length<bp)
 (hb:∀i acc st v,xs[i]? =some v->Inv i acc st->wp (body v) (λr U=>acc.length+r.length<=bH/\Inv (i+1) (acc++r) U) st)
 (he:∀acc st,Inv xs.length acc st->Q acc st):wp (fB (.items xs) body bp 0 []) Q st:=abn Inv (λi aj st P h=>by exact bC) hb he bp 0 [] st h0 (dJ _) hk
end
section
variable{st:ah}{Q:Src->ah->Prop}
def src_list{l:Nat}{xs:List V}(h:st[l]? =some (.list xs)):wp (srcOf (.ab l)) Q st=Q (.list l) st:=(fI (gN h)).trans bC
def abp [hR:Rep c H st]:wp (srcOf (.ab (c.ab (.mem t)))) Q st=Q (.list (c.ab (.mem t))) st:=src_list (hR.at' (.mem t))
def abq [hR:Rep c H st]:wp (srcOf (.ab (c.ab (.use t)))) Q st=Q (.list (c.ab (.use t))) st:=src_list (hR.at' (.use t))
def abr [hR:Rep c H st]:wp (srcOf (.ab (c.ab (.aD t)))) Q st=Q (.list (c.ab (.aD t))) st:=src_list (hR.at' (.aD t))
def abt [hR:Rep c H st]:wp (srcOf (.ab (c.ab (.aS t)))) Q st=Q (.list (c.ab (.aS t))) st:=src_list (hR.at' (.aS t))
def abu [hR:Rep c H st]:wp (srcOf (.ab (c.ab .bk))) Q st=Q (.list (c.ab .bk)) st:=src_list (hR.at' .bk)
end
variable{e:Expr}{r:List Expr}
def abv{I:aT}{aa:aO}{st:ah}{Q:Bool->ah->Prop}:wp (gq I aa .And (e::r)) Q st=wp (I.b7 aa e) (λt U=>if t=true then wp (gq I aa .And r) Q U else Q false U) st:=aZ.trans (congrArg (λR=>wp (I.b7 aa e) R st) (funext λt=>funext λU=> @nB (λt=>wp (match abw,t with|.And,false=>rt false|.Or,true=>rt true|_,_=>gq I aa .And r) Q U=if t=true then wp (gq I aa .And r) Q U else Q false U) bC rfl t))
def abx{I:aT}{aa:aO}{st:ah}{Q:Bool->ah->Prop}:wp (gq I aa .Or (e::r)) Q st=wp (I.b7 aa e) (λt U=>if t=true then Q true U else wp (gq I aa .Or r) Q U) st:=aZ.trans (congrArg (λR=>wp (I.b7 aa e) R st) (funext λt=>funext λU=> @nB (λt=>wp (match BoolOp.Or,t with|.And,false=>rt false|.Or,true=>rt true|_,_=>gq I aa .Or r) Q U=if t=true then Q true U else wp (gq I aa .Or r) Q U) rfl bC t))
def MH{I:aT}{aa:aO}{o:BoolOp}{st:ah}{Q:Bool->ah->Prop}:wp (gq I aa o []) Q st=Q (match o with|.And=>true|.Or=>false) st:=bC
@[reducible]abbrev sz(x:String):Str:=aM x
section
variable{st:ah}{Q:MK->ah->Prop}
def aby [hR:Rep c H st]:wp (fU (.ab (c.ab .gg)) (sz "args")) Q st=Q (.inst (sz "Bank")) st:=Mg dz
def abz [hR:Rep c H st]:wp (fU (.ab (c.ab .gg)) (sz "data")) Q st=Q (.inst (sz "Bank")) st:=Mg (dM _ dz)
end
section
variable{I:aT}{aa:aO}{st:ah}
def abA{elt:Expr}{rest:List c9}{Q:V->ah->Prop}(ok:(qP aa scope && (g::rest).all (λg=>g.is_async==0))=true)
 (h:wp (I.ev aa g.iter) (λs au=>wp (srcOf s) (λsrc aH=>wp (fB src (clauses aY I elt (g::rest) (compEnv scope aa.aj)) bp 0 []) (λxs aQ=>wp (cg xs) Q aQ) aH) au) st):wp (comp aY I aa elt (g::rest) scope) Q st:=by
 show wp (if(!(qP aa scope && (g::rest).all (λg=>g.is_async==0)))=true then er else bd (I.ev aa g.iter) λs=>bd (srcOf s) λsrc=>bd (fB src (clauses aY I elt (g::rest) (compEnv scope aa.aj)) bp 0 []) λxs=>cg xs) Q st;rw[ok];exact aZ.mpr (wp_mono h λs au h=>aZ.mpr (wp_mono h λsrc aH h=>aZ.mpr h))
def ajZ{elt bP iter xO sX:Expr}{ifs xP:List Expr}{a a2:Int}{rest:List c9}{Q:List V->ah->Prop}(ok:(freshT aa.aj bP && a==0)=true)
 (h:wp (ef aY I aa bP v) (λaj au=>wp (tests I {aa with aj:=aj} ifs) (λt aH=>if t=true then wp (I.ev {aa with aj:=aj} sX) (λs aQ=>wp (srcOf s) (λsrc b6=>
  wp (fB src (clauses aY I elt (⟨xO,sX,xP,a2⟩::rest) {aa with aj:=aj}) bp 0 []) Q b6) aQ) aH else Q [] aH) au) st):
 wp (clauses aY I elt (⟨bP,iter,ifs,a⟩::⟨xO,sX,xP,a2⟩::rest) aa v) Q st:=by
 refine(nu ok).mpr (aZ.mpr (wp_mono h λaj au h=>aZ.mpr (wp_mono h λt aH h=> ?_)));cases t with
 |false=>exact bC.mpr h
 |true=>exact aZ.mpr (wp_mono h λx aQ h=>aZ.mpr h)
def abB{Q:Bool->ah->Prop}:wp (tests I aa []) Q st=Q true st:=bC
def abC{Q:Bool->ah->Prop}:wp (tests I aa [e]) Q st=wp (I.b7 aa e) (λt U=>Q t U) st:=aZ.trans (congrArg (λR=>wp (I.b7 aa e) R st) (funext λt=>funext λU=> @nB (λt=>wp (if t=true then rt true else rt false) Q U=Q t U) bC bC t))
end
variable{i:Int}{kvs:List (V×V)}
section
variable{I:aT}{st:ah}{as:List V}
def xQ{Q:V->ah->Prop}:wp (one [v]) Q st=Q v st:=by unfold wp;rfl
def MI{Q:Int->ah->Prop}:wp (cR (.int i)) Q st=Q i st:=by unfold wp;rfl
def abD{i:Nat}{Q:Nat->ah->Prop}:wp (qK (.ab i)) Q st=Q i st:=by unfold wp;rfl
section
variable{xs:List V}
def abE(h:st[l]? =some (.list xs)):wp (fC .tuple [.ab l]) Q st=Q (.tup xs) st:=show wp (bd (getL (.ab l)) λp=>rt (.tup p.2)) Q st=_ from aZ.trans ((d5 h).trans bC)
def eK(h:st[l]? =some (.list xs)):wp (fC .len [.ab l]) Q st=Q (.int xs.length) st:=show wp (bd (dQ l) Cz) Q st=_ from(fI (gN h)).trans bC
def MJ{ep:Option Nat}(h:st[l]? =some (.dict kvs ep)):wp (fC .len [.ab l]) Q st=Q (.int kvs.length) st:=show wp (bd (dQ l) Cz) Q st=_ from(fI (gN h)).trans bC
def FA(h:st[l]? =some (.list xs)):wp (fC .list [.ab l]) Q st=wp (cg xs) Q st:=show wp (bd (dQ l) CA) Q st=_ from fI (gN h)
def abF{ep:Option Nat}(h:st[l]? =some (.dict kvs ep))(h2:kvs.all (λp=>p.1.isInt)=true):wp (fC .list [.ab l]) Q st=wp (cg (kvs.map (·.1))) Q st:=show wp (bd (dQ l) CA) Q st=_ from(fI (gN h)).trans (nu h2)
def xR(f:α->Int)(l:List α):dZ (l.map λa=>.int (f a))=some (l.map f):=by
 induction l with
 |nil=>rfl
 |cons a r ih=>exact congrArg (wH (f a::·)) ih
def Bn{f:α->Int}{ys:List α}(h:st[l]? =some (.list (ys.map λa=>.int (f a))))(h2:ys.length<64):wp (fC .sorted [.ab l]) Q st=wp (cg ((sortI (ys.map f)).map .int)) Q st:=by
 unfold fC;dsimp only;rw[aZ,xQ,aZ,d5 h];show wp (match dZ (ys.map λa=>.int (f a))with|some _=>_|none=>_) Q st=_;rw[xR];show wp (vT _) Q st=_;unfold vT;rw[xR];dsimp only;rw[if_pos (by rw[aP];exact h2)]
def qf(h:st[l]? =some (.list xs))(h2:xs[j]? =some v)(hi:i=j):wp (getItem (.ab l) (.int i)) Q st=Q v st:=by have:=(b9.mp h2).1;refine Mm h ?_ h2;unfold idx;rw[if_pos (hi▸Jx _),if_pos (hi▸jm.mpr this),hi];rfl
def ML(h:st[l]? =some (.list (xs++[v])))(hi:i= -1):wp (getItem (.ab l) (.int i)) Q st=Q v st:=by refine Mm h (j:=xs.length) ?_ (by simp);unfold idx;have e:(-1:Int)+((xs.length+1:Nat):Int)=xs.length:=(KL _ _).trans (Int.add_neg_cancel_right (xs.length:Int) 1);rw[hi,if_neg (by decide),bM,fK,e,if_pos (Jx _)];rfl
end
end
def abG{st:ah}{Q:List V->ah->Prop}(h:wp (body v) (λr U=>r.length<=bH/\Q r U) st):wp (fB (.items [v]) body bp 0 []) Q st:=by
 refine abo (λi acc U=>(i=0/\acc=[]/\U=st)\/(i=1/\Q acc U)) (.inl ⟨rfl,rfl,rfl⟩) (by simp[bp]) ?_ ?_
 .rintro i acc U w hw (⟨rfl,rfl,rfl⟩|⟨rfl,_⟩)
  .simp only[v8,eW]at hw;subst hw;refine wp_mono h λr oD hr=>⟨by simpa using hr.1,.inr ⟨rfl,by simpa using hr.2⟩⟩
  .simp at hw
 .rintro acc U (⟨h,_⟩|⟨_,h⟩)
  .simp at h
  .exact h
variable{ys:List V}
def abH{st:ah}{xs:List V}{Q:V->ah->Prop}(h:xs.length+ys.length<=bH):wp (binop .Add (.tup xs) (.tup ys)) Q st=Q (.tup (xs++ys)) st:=show wp (bd (fits (xs.length+ys.length)) λY=>rt (.tup (xs++ys))) Q st=_ from aZ.trans ((p6 h).trans bC)
def sY{st:ah}{l:Nat}{xs:List V}{Q:V->ah->Prop}(h1:st[k]? =some (.list xs))(h2:st[l]? =some (.list ys)):wp (binop .Add (.ab k) (.ab l)) Q st=wp (cg (xs++ys)) Q st:=show wp (bd (getL (.ab k)) λp=>bd (getL (.ab l)) λq=>cg (p.2++q.2)) Q st=_ from aZ.trans ((d5 h1).trans (aZ.trans (d5 h2)))
def vd{c a b:Prop}{d:Decidable c}(h:¬c)(k:b): @ite _ c d a b:=by rw[if_neg h];exact k
def FF{c a b:Prop}{d:Decidable c}(h:c)(k:a): @ite _ c d a b:=by rw[if_pos h];exact k
def v7{a l:Nat}(h:a<n)(k:n<=l):l≠0:=jR (eM (iT (dJ _) h) k)
def MM(a b:Nat):((a+1+b:Nat):Int)-((b:Int)+1)=a:=by
 have:((a+1+b:Nat):Int)=(a:Int)+((b:Int)+1):=by rw[abI,nO];rfl
 rw[this,abJ]
def a8(h:n<=5000):n<=bH:=bx h (by decide)
def vh{st:ah}{I:aT}{l:Nat}{xs:List V}{Q:V->ah->Prop}(h:st[l]? =some (.list xs))(h0:l≠0)(hc:xs.length+1<=bH)(k:Q .none (st.set l (.list (xs++[v])))):wp (eC I .list (.ab l) (sz "append") [v]) Q st:=by refine(aZ.trans (d5 h)).mpr ?_;show wp (bd (gE l (xs++[v])) λY=>rt .none) Q st;rw[aZ,AU (xs:=xs++[v]) h h0 (by rw[bM];exact hc)];exact bC.mpr k
def abK{st:ah}{I:aT}{l:Nat}{xs:List V}{Q:V->ah->Prop}(h:st[l]? =some (.list xs))(h2:st[k]? =some (.list ys))(h0:l≠0)(ba:k≠l)(hc:xs.length+ys.length<=bH)(kk:Q .none (st.set l (.list (xs++ys)))):wp (eC I .list (.ab l) (sz "extend") [.ab k]) Q st:=by refine(aZ.trans ((d5 h).trans (aZ.trans (d5 h2)))).mpr ?_;rw[if_pos ba,aZ,AU h h0 (bM▸hc)];exact bC.mpr kk
def MN{st:ah}{I:aT}{l:Nat}{xs:List V}{Q:V->ah->Prop}(h:st[l]? =some (.list (xs++[v])))(h0:l≠0)(hc:xs.length<=bH)(k:Q v (st.set l (.list xs))):wp (eC I .list (.ab l) (sz "pop") []) Q st:=by refine(aZ.trans ((d5 h).trans (aZ.trans (xF abb)))).mpr ?_;rw[aZ,Fw,AU h h0 hc];exact bC.mpr k
def get_set{st:ah}{l:Nat}{o o':O}(h:st[l]? =some o'):(st.set l o)[l]? =some o:=by rw[CQ ((b9.mp h).1)]
def cv{st:ah}{l:Nat}{o:O}(h:k≠l):(st.set l o)[k]? =st[k]? :=mN (b0 h)
def cG{st:ah}{xs:List V}{Q:V->ah->Prop}(h:xs.length<=bH)(k:∀l U,Pre st U->l=st.length->U.length=l+1->U[l]? =some (.list xs)->Q (.ab l) U):wp (cg xs) Q st:=by rw[EZ h];exact k _ _ (.app _ _) rfl bM Fx
def Bo{st:ah}{ep:Option Nat}{Q:V->ah->Prop}(k:∀l U,Pre st U->l=st.length->U.length=l+1->U[l]? =some (.dict kvs ep)->Q (.ab l) U):wp (je (.dict kvs ep)) Q st:=by rw[AS];exact k _ _ (.app _ _) rfl bM Fx
def abL{I:aT}{aa:aO}{st:ah}{Q:List (V×V)->ah->Prop}:wp (lH I aa [] []) Q st=Q [] st:=by show wp (rt []) Q st=_;rw[bC]
def MO{st:ah}{d:V}{Q:Unit->ah->Prop}:wp (jf d []) Q st=Q () st:=bC
def abM{st:ah}{d:V}{p:V×V}{r:List (V×V)}{Q:Unit->ah->Prop}:wp (jf d (p::r)) Q st=wp (eU d p.1 p.2) (λY U=>wp (jf d r) Q U) st:=aZ
def abN(h:kvs.all (λp=>p.1.isInt)=true):eB (.int i) kvs=true:=h
def FG(h:kvs.all (λp=>p.1.isInt)=true):eB (tm t) kvs=true:=h
abbrev Bp(v:V):M (Option Int):=match v with|.int i=>rt (some i)|_=>er
def abO{st:ah}{Q:Option Int->ah->Prop}:wp (Bp (.int i)) Q st=Q (some i) st:=bC
def abP{I:aT}{aa:aO}{st:ah}{Q:Option Int->ah->Prop}:wp (lI I aa none) Q st=Q none st:=bC
def oi_some{I:aT}{aa:aO}{st:ah}{Q:Option Int->ah->Prop}:wp (lI I aa (some e)) Q st=wp (I.ev aa e) (λv U=>wp (Bp v) Q U) st:=by
 rw[lI,aZ];congr 1;funext v U;cases v<;>first|rfl|(unfold wp)
def sZ{xs:List V}(h:k<=xs.length):pb xs none (some (k:Int))=xs.take k:=by show(xs.take (clipAt xs.length k)).drop 0=_;rw[clipAt_nat,vi h];rfl
def abQ{xs:List V}(h:k<=xs.length):pb xs (some (k:Int)) none=xs.drop k:=by show(xs.take xs.length).drop (clipAt xs.length k)=_;rw[clipAt_nat,vi h,jY]
abbrev s8(p:Th×Th):V:=.tup [tm p.1,tm p.2]
section
variable{st:ah}{Q:List V->ah->Prop}{R:V->ah->Prop}
end
section
variable{st:ah}{Q:MK->ah->Prop}
def abR [hR:Rep c H st]:wp (fU (.ab (c.ab .table)) (sz "get")) Q st=Q .dict st:=aaJ (hR.at' .table)
end
def take_snoc{l:List α}{i:Nat}{a:α}(h:l[i]? =some a):l.take (i+1)=l.take i++[a]:=by rw[Xi,h];rfl
abbrev Bq:Option Sep->V|none=>.none|some s=>gY s
def abS{st:ah}(a:Option Sep){Q:V->ah->Prop}:wp (cmp .Is (Bq a) .none) Q st=Q (.bool a.isNone) st:=by unfold wp;cases a<;>rfl
abbrev Br(p:Th×(Th×bR)):V:=.tup [tm p.1,rG p.2]
def abT{st:ah}{c:ck}{H:aB}{I:aT}{r:Th}{Q:V->ah->Prop} [hR:Rep c H st]:wp (eC I .dict (.ab (c.ab .table)) (sz "get") [jw r]) Q st=Q (on (H.k.tab r)) st:=by refine(fI (Mq (hR.at' .table))).trans ((nu (Fm ..)).trans (bC.trans (congrArg (λv=>Q v st) ?_)));rw[jX Be,hR.tab];cases H.k.tab r<;>rfl
def MP{aa:aO}{r:List Stmt}{Q:Fl×aw->ah->Prop}{st:ah}{t:Expr}{b:List Stmt}(J:ah->Prop)
 (h:wp ((ip (n+1)).b7 aa t) (λc au=>if c=true then wp ((ip (n+1)).cZ aa b) (λq aH=>q.1= .next/\q.2=aa.aj/\J aH) au else J au) st) (hr:∀aH,J aH->wp (xs (ip (n+1)) aa r) Q aH):
 wp (xs (ip (n+1)) aa (.If t b [] q::r)) Q st:=by
 refine E6 (wp_mono h λc au h=> ?_);cases c with
 |false=>exact(sR n aa []).symm▸LZ (hr au h)
 |true=>refine wp_mono h λq aH h=> ?_;show nx _ _ _ _ (q.1,q.2) aH;rw[h.1,h.2.1];exact hr aH h.2.2
def MQ{st:ah}{l:Nat}{body:V->aw->M (Fl×aw)}{Q:Fl×aw->ah->Prop}{aj:aw}(h:st[l]? =some (.list []))(k:Q (.next,aj) st):wp (forL (.list l) body bp 0 aj) Q st:=abm (xs:=[]) (λi v s=>i=0/\v=aj/\s=st) ⟨rfl,rfl,rfl⟩ (by decide) (by intro i v s bz;obtain⟨_,_,rfl⟩:=bz;exact h) (by intro i v s x hx;cases hx) (by rintro v s ⟨_,rfl,rfl⟩;exact k)
variable{ep:Nat}
def MR{st:ah}{l:Nat}{Q:Src->ah->Prop}(h:st[l]? =some (.dict kvs (some ep)))(h2:kvs.all (λp=>p.1.isInt)=true):wp (srcOf (.ab l)) Q st=Q (.dict l kvs.length ep) st:=(fI (gN h)).trans ((nu h2).trans bC)
def abU{st:ah}{c:ck}{H:aB}{Q:Src->ah->Prop} [hR:Rep c H st]:wp (srcOf (.ab (c.ab .ae))) Q st=Q (.dict (c.ab .ae) 7 c.rep) st:=MR (hR.at' .ae) rfl
def MS{st:ah}{l i:Nat}{P:Option V->ah->Prop}(h:st[l]? =some (.dict kvs (some ep)))(h2:kvs.all (λp=>p.1.isInt)=true)(hn:kvs.length=n):wp (nX (.dict l n ep) i) P st=P (kvs.map (·.1))[i]? st:=by refine(fI (gN h)).trans ?_;show wp (if kvs.length=n/\some ep=some ep/\kvs.all (λp=>p.1.isInt)=true then rt (kvs[i]?.map (·.1))else er) P st=_;rw[if_pos ⟨hn,rfl,h2⟩,bC,fh]
abbrev ix(t:Th):V:=.int (t.val:Int)
def FJ{st:ah}(n:Nat)(a b:Th):bZ n st (ix a) (ix b)=some (decide (a=b)):=(rI ..).trans (congrArg some (rJ ⟨λh=>u6 (rb h),λh=>h▸rfl⟩))
abbrev mn(a b:Th):Th:=if a<=b then a else b
abbrev mx(a b:Th):Th:=if a<=b then b else a
def abV(a b:Th):sortI ([a,b].map λt:Th=>(t.val:Int))=[mn a b,mx a b].map λt:Th=>(t.val:Int):=by
 show(if(a.val:Int)<=(b.val:Int)then[(a.val:Int),(b.val:Int)]else[(b.val:Int),(a.val:Int)])=[((if a<=b then a else b:Th).val:Int),((if a<=b then b else a:Th).val:Int)];by_cases h:a<=b
 .rw[if_pos h,if_pos h,if_pos (sa.mpr h)]
 .rw[if_neg h,if_neg h,if_neg (λe=>h (sa.mp e))]
def Bs{st:ah}{l:Nat}{Q:V->ah->Prop}(h:st[l]? =some (.list [ix a,ix b])):wp (fC .sorted [.ab l]) Q st=wp (cg [ix (mn a b),ix (mx a b)]) Q st:=by rw[Bn (f:=λt:Th=>(t.val:Int)) (ys:=[a,b]) h (by simp),abV];rfl
def abW{st:ah}{l:Nat}{xs:List V}{Q:List V->ah->Prop}(h:st[l]? =some (.list xs)):wp (jJ (.ab l)) Q st=Q xs st:=aZ.trans ((d5 h).trans bC)
def FL{st:ah}{Q:V->ah->Prop}(h:0<=i/\i<=bH):wp (fC .range [.int i]) Q st=Q (.cY i.toNat) st:=by show wp (if 0<=i/\i<=bH then rt (.cY i.toNat)else er) Q st=_;rw[if_pos h,bC]
structure Fact where
 cT:Bool
 u:Th
 v:Th
 m:Nat
abbrev fM(f:Fact):V:=.tup [.bool f.cT,ix f.u,ix f.v,.int (f.m:Int)]
abbrev gZ(p:Th×Th):V:=.tup [ix p.1,ix p.2]
def abX{I:aT}{aa:aO}{e2:Expr}{st:ah}{Q:V->ah->Prop}:wp (gU I aa .Or (e::e2::r)) Q st=wp (I.ev aa e) (λv au=>wp (truthy v) (λt aH=>if t=true then Q v aH else wp (gU I aa .Or (e2::r)) Q aH) au) st:=
 aZ.trans (congrArg (λR=>wp (I.ev aa e) R st) (funext λv=>funext λau=>aZ.trans (congrArg (λR=>wp (truthy v) R au) (funext λt=>funext λaH=>
  @nB (λt=>wp (match BoolOp.Or,t with|.And,false=>rt v|.Or,true=>rt v|_,_=>gU I aa .Or (e2::r)) Q aH=if t=true then Q v aH else wp (gU I aa .Or (e2::r)) Q aH) rfl bC t))))
def bv_and{I:aT}{aa:aO}{e2:Expr}{st:ah}{Q:V->ah->Prop}:wp (gU I aa .And (e::e2::r)) Q st=wp (I.ev aa e) (λv au=>wp (truthy v) (λt aH=>if t=true then wp (gU I aa .And (e2::r)) Q aH else Q v aH) au) st:=
 aZ.trans (congrArg (λR=>wp (I.ev aa e) R st) (funext λv=>funext λau=>aZ.trans (congrArg (λR=>wp (truthy v) R au) (funext λt=>funext λaH=>
  @nB (λt=>wp (match abw,t with|.And,false=>rt v|.Or,true=>rt v|_,_=>gU I aa .And (e2::r)) Q aH=if t=true then wp (gU I aa .And (e2::r)) Q aH else Q v aH) bC rfl t))))
def aj0{I:aT}{aa:aO}{o:BoolOp}{st:ah}{Q:V->ah->Prop}:wp (gU I aa o [e]) Q st=wp (I.ev aa e) Q st:=rfl
def MT{st:ah}{l:Nat}{ep:Option Nat}{Q:V->ah->Prop}(h:st[l]? =some (.dict kvs ep))(h2:kvs.all (λp=>p.1.isInt)=true):wp (fC .dict [.ab l]) Q st=wp (je (.dict kvs none)) Q st:=show wp (bd (dQ l) CB) Q st=_ from(fI (gN h)).trans (nu h2)
def abY(t:aW)(l:List aW):(l.map λt:aW=>((t.val:Int)+10)).count ((t.val:Int)+10)=l.count t:=by
 induction l with
 |nil=>rfl
 |cons a r ih=>rw[eP,abZ,abZ,ih];exact congrArg (λb:Bool=>r.count t+if b=true then 1 else 0) (rJ (p:=((a.val:Int)+10=(t.val:Int)+10)) ⟨λh=>u6 (rb ((E8 _).mp h)),λh=>h▸rfl⟩)
def w_count{st:ah}{I:aT}{l:Nat}{xs:List aW}{t:aW}{Q:V->ah->Prop}(h:st[l]? =some (.list (xs.map bJ))):wp (eC I .list (.ab l) (sz "count") [bJ t]) Q st=Q (.int (xs.count t:Nat)) st:=by refine aZ.trans ((d5 h).trans (aZ.trans ((xF (xR (λt:aW=>((t.val:Int)+10)) xs)).trans (bC.trans ?_))));rw[abY]
structure GC where
 c:ck
 v:Option V
 w:Option V
structure GV where
 v:Option V
 w:Option V
 x:Option V
 y:Option V
abbrev Bt(body:V->aw->M (Fl×aw))(Q:Fl×aw->ah->Prop)(ys:List α)(f:α->V)(I:Nat->γ->ah->Prop)(vf:γ->aw):Prop:=∀i y g st (P:Fl×aw->ah->Prop),ys[i]? =some y->I i g st->(∀g' U,I (i+1) g' U->P (.next,vf g') U)->(∀v aj U,Q (.ret v,aj) U->P (.ret v,aj) U)->wp (body (f y) (vf g)) P st
def FN{body:V->aw->M (Fl×aw)}{Q:Fl×aw->ah->Prop}{ys:List α}{f:α->V}{I:Nat->γ->ah->Prop}{vf:γ->aw}
 (hs:∀i g st (P:Option V->ah->Prop),I i g st->wp (nX src i) P st=P (ys[i]?.map f) st) (hb:Bt body Q ys f I vf) (he:∀g st,I ys.length g st->Q (.next,vf g) st) (k:Nat):
 ∀i g st,I i g st->i<=ys.length->ys.length<k+i->wp (forL src body k i (vf g)) Q st:=by
 induction k with
 |zero=>exact λi Y Y Y hle h=>absurd (eM h (bx (lD (nP i)) hle)) (qW _)
 |succ k ih=>
  intro i g st hI hle h;refine(aZ.trans (hs i g st _ hI)).mpr ?_;cases e:ys[i]? with
  |none=>exact bC.mpr (he g st (dU hle (pP.mp e)▸hI))
  |some y=>exact aZ.mpr (hb i y g st _ e hI (λg' U h'=>ih (i+1) g' U h' (b9.mp e).1 (Fz k i▸h)) λv aj U q=>bC.mpr q)
def nD{st:ah}{l:Nat}{body:V->aw->M (Fl×aw)}{Q:Fl×aw->ah->Prop}{ys:List α}{f:α->V}(I:Nat->T0->ah->Prop)(vf:T0->aw){g:T0}(h0:I 0 g st)(hk:ys.length<bp)
 (hl:∀i g st,I i g st->st[l]? =some (.list (ys.map f))) (hb:Bt body Q ys f I vf) (he:∀g st,I ys.length g st->Q (.next,vf g) st):wp (forL (.list l) body bp 0 (vf g)) Q st:=FN (λi g st P h=>by exact(fI (gN (hl i g st h))).trans (bC.trans (congrArg (λo=>P o st) fh))) hb he bp 0 g st h0 (dJ _) hk
def MU{st:ah}{body:V->aw->M (Fl×aw)}{Q:Fl×aw->ah->Prop}{ys:List α}{f:α->V}(I:Nat->T0->ah->Prop)(vf:T0->aw){g:T0}(h0:I 0 g st)(hk:ys.length<bp)
 (hb:Bt body Q ys f I vf) (he:∀g st,I ys.length g st->Q (.next,vf g) st):wp (forL (.items (ys.map f)) body bp 0 (vf g)) Q st:=FN (λi g st P h=>by exact bC.trans (congrArg (λo=>P o st) fh)) hb he bp 0 g st h0 (dJ _) hk
def ab0{st:ah}{l:Nat}{body:V->aw->M (Fl×aw)}{Q:Fl×aw->ah->Prop}{ys:List (V×V)}(I:Nat->T0->ah->Prop)(vf:T0->aw){g:T0}(h0:I 0 g st)(hk:ys.length<bp)(h2:ys.all (λp=>p.1.isInt)=true)
 (hl:∀i g st,I i g st->st[l]? =some (.dict ys (some ep))) (hb:Bt body Q ys (·.1) I vf) (he:∀g st,I ys.length g st->Q (.next,vf g) st):wp (forL (.dict l ys.length ep) body bp 0 (vf g)) Q st:=FN (λi g st P h=>(MS (hl i g st h) h2 rfl).trans (congrArg (λo=>P o st) fh)) hb he bp 0 g st h0 (dJ _) hk
abbrev MV(test:aw->M Bool)(body:aw->M (Fl×aw))(Q:Fl×aw->ah->Prop)(I:Nat->γ->ah->Prop)(vf:γ->aw):Prop:=∀n g st (P:Fl×aw->ah->Prop),I n g st->(∀m g' U,m<n->I m g' U->P (.next,vf g') U)->(∀v aj U,Q (.ret v,aj) U->P (.ret v,aj) U)->wp (test (vf g)) (λt U=>if t=true then wp (body (vf g)) P U else Q (.next,vf g) U) st
def ab1{body:aw->M (Fl×aw)}{Q:Fl×aw->ah->Prop}{I:Nat->γ->ah->Prop}{vf:γ->aw}(hb:MV test body Q I vf)(k:Nat):
 ∀n g st,I n g st->n<k->wp (pg test body k (vf g)) Q st:=by
 induction k with
 |zero=>exact λn Y Y Y h=>absurd h (wA _)
 |succ k ih=>
  intro n g st hI h;refine aZ.mpr (wp_mono (hb n g st (λr U=>wp (match r.1 with|.next=>pg test body k r.2|.ret _=>rt r) Q U) hI (λm g' U hm h'=>ih m g' U h' (eM hm (yY h))) λv aj U q=>bC.mpr q) λt U ht=> ?_);cases t with
  |false=>exact bC.mpr ht
  |true=>exact aZ.mpr ht
def s9{st:ah}{body:aw->M (Fl×aw)}{Q:Fl×aw->ah->Prop}(I:Nat->T0->ah->Prop)(vf:T0->aw){g:T0}(h0:I n g st)(hk:n<bp)(hb:MV test body Q I vf):wp (pg test body bp (vf g)) Q st:=ab1 hb bp n g st h0 hk
abbrev FP(body:V->M (List V))(ys:List α)(f:α->V)(I:Nat->List V->γ->ah->Prop):Prop:=∀i y acc g st (P:List V->ah->Prop),ys[i]? =some y->I i acc g st->(∀r g' U,acc.length+r.length<=bH->I (i+1) (acc++r) g' U->P r U)->wp (body (f y)) P st
def MW{Q:List V->ah->Prop}{ys:List α}{f:α->V}{I:Nat->List V->γ->ah->Prop}
 (hs:∀i acc g st (P:Option V->ah->Prop),I i acc g st->wp (nX src i) P st=P (ys[i]?.map f) st) (hb:FP body ys f I) (he:∀acc g st,I ys.length acc g st->Q acc st) (k:Nat):
 ∀i acc g st,I i acc g st->i<=ys.length->ys.length<k+i->wp (fB src body k i acc) Q st:=by
 induction k with
 |zero=>exact λi Y Y Y Y hle h=>absurd (eM h (bx (lD (nP i)) hle)) (qW _)
 |succ k ih=>
  intro i acc g st hI hle h;refine(aZ.trans (hs i acc g st _ hI)).mpr ?_;cases e:ys[i]? with
  |none=>exact bC.mpr (he acc g st (dU hle (pP.mp e)▸hI))
  |some y=>exact aZ.mpr (hb i y acc g st _ e hI λr g' U hc h'=>(aZ.trans (p6 hc)).mpr (ih (i+1) (acc++r) g' U h' (b9.mp e).1 (Fz k i▸h)))
def xS{st:ah}{l:Nat}{Q:List V->ah->Prop}{ys:List α}{f:α->V}(I:Nat->List V->T0->ah->Prop){g:T0}(h0:I 0 [] g st)(hk:ys.length<bp)
 (hl:∀i acc g st,I i acc g st->st[l]? =some (.list (ys.map f))) (hb:FP body ys f I) (he:∀acc g st,I ys.length acc g st->Q acc st):wp (fB (.list l) body bp 0 []) Q st:=MW (λi acc g st P h=>by exact(fI (gN (hl i acc g st h))).trans (bC.trans (congrArg (λo=>P o st) fh))) hb he bp 0 [] g st h0 (dJ _) hk
def ab2{st:ah}{l:Nat}{Q:List V->ah->Prop}{ys:List (V×V)}(I:Nat->List V->T0->ah->Prop){g:T0}(h0:I 0 [] g st)(hk:ys.length<bp)(h2:ys.all (λp=>p.1.isInt)=true)
 (hl:∀i acc g st,I i acc g st->st[l]? =some (.dict ys (some ep))) (hb:FP body ys (·.1) I) (he:∀acc g st,I ys.length acc g st->Q acc st):wp (fB (.dict l ys.length ep) body bp 0 []) Q st:=MW (λi acc g st P h=>(MS (hl i acc g st h) h2 rfl).trans (congrArg (λo=>P o st) fh)) hb he bp 0 [] g st h0 (dJ _) hk
def MX{st:ah}{l:Nat}{body:V->aw->M (Fl×aw)}{Q:Fl×aw->ah->Prop}{ys:List α}{f:α->V}(hl:st[l]? =some (.list (ys.map f)))(I:Nat->T0->Prop)(vf:T0->aw){g:T0}(h0:I 0 g)(hk:ys.length<bp)
 (hb:∀i y g (P:Fl×aw->ah->Prop),ys[i]? =some y->I i g->(∀g',I (i+1) g'->P (.next,vf g') st)->(∀v aj,Q (.ret v,aj) st->P (.ret v,aj) st)->wp (body (f y) (vf g)) P st) (he:∀g,I ys.length g->Q (.next,vf g) st):wp (forL (.list l) body bp 0 (vf g)) Q st:=nD (λi g U=>st=U/\I i g) vf ⟨rfl,h0⟩ hk (λi g U h=>h.1▸hl) (λi y g U P hy h re ret=>MY (motive:=λU=>(∀v aj U,Q (.ret v,aj) U->P (.ret v,aj) U)->wp (body (f y) (vf g)) P U) (λret=>hb i y g P hy h.2 (λg' h=>re g' st ⟨rfl,h⟩) λv aj q=>ret v aj st q) h.1 ret) λg U h=>h.1▸he g h.2
def ab3{st:ah}{l:Nat}{Q:List V->ah->Prop}{ys:List α}{f:α->V}(hl:st[l]? =some (.list (ys.map f)))(I:Nat->List V->Prop)(h0:I 0 [])(hk:ys.length<bp)
 (hb:∀i y acc (P:List V->ah->Prop),ys[i]? =some y->I i acc->(∀r,acc.length+r.length<=bH->I (i+1) (acc++r)->P r st)->wp (body (f y)) P st) (he:∀acc,I ys.length acc->Q acc st):wp (fB (.list l) body bp 0 []) Q st:=xS (λi acc (_:Unit) U=>st=U/\I i acc) (g:=()) ⟨rfl,h0⟩ hk (λi acc g U h=>h.1▸hl) (λi y acc g U P hy h re=>MY (motive:=λU=>wp (body (f y)) P U) (hb i y acc P hy h.2 λr hc h=>re r () st hc ⟨rfl,h⟩) h.1) λacc g U h=>h.1▸he acc h.2
def ab4{st:ah}{l:Nat}{Q:List V->ah->Prop}{ys:List (V×V)}(hl:st[l]? =some (.dict ys (some ep)))(I:Nat->List V->Prop)(h0:I 0 [])(hk:ys.length<bp)(h2:ys.all (λp=>p.1.isInt)=true)
 (hb:∀i y acc (P:List V->ah->Prop),ys[i]? =some y->I i acc->(∀r,acc.length+r.length<=bH->I (i+1) (acc++r)->P r st)->wp (body y.1) P st) (he:∀acc,I ys.length acc->Q acc st):wp (fB (.dict l ys.length ep) body bp 0 []) Q st:=ab2 (λi acc (_:Unit) U=>st=U/\I i acc) (g:=()) ⟨rfl,h0⟩ hk h2 (λi acc g U h=>h.1▸hl) (λi y acc g U P hy h re=>MY (motive:=λU=>wp (body y.1) P U) (hb i y acc P hy h.2 λr hc h=>re r () st hc ⟨rfl,h⟩) h.1) λacc g U h=>h.1▸he acc h.2
def ta{ys:List α}{p:α->Bool}{g:α->β}{i:Nat}{y:α}(h:ys[i]? =some y):((ys.take (i+1)).filter p).map g=((ys.take i).filter p).map g++(if p y=true then[g y]else[]):=by
 rw[take_snoc h,List.filter_append,cD];refine congrArg _ ?_;show(match p y with|true=>[y]|false=>[]).map g=_;cases p y<;>rfl
def MZ{ys:List α}{p:α->Bool}{g:α->β}{i:Nat}{y:α}(hk:ys.length<bp)(h:ys[i]? =some y):(((ys.take i).filter p).map g).length+(if p y=true then[g y]else[]).length<=bH:=by rw[<-bM,<-ta h,aP];exact bx (jU ..) (bx (vj _ _) (bx (pB hk) (by decide)))
def vk{st:ah}{l:Nat}{Q:List V->ah->Prop}{ys:List α}{f:α->V}(p:α->Bool)(g:α->V)(hl:st[l]? =some (.list (ys.map f)))(hk:ys.length<bp)
 (hb:∀y (P:List V->ah->Prop),y∈ys->P (if p y=true then[g y]else[]) st->wp (body (f y)) P st) (he:Q ((ys.filter p).map g) st):wp (fB (.list l) body bp 0 []) Q st:=ab3 hl (λi acc=>acc=((ys.take i).filter p).map g) rfl hk (λi y acc P hy h re=>hb y P (jL hy) (re _ (h▸MZ hk hy) (by rw[h,ta hy]))) λacc h=>by rw[h,jY];exact he
def M0{st:ah}{l:Nat}{Q:List V->ah->Prop}{ys:List α}{f:α->V}(g:α->V)(hl:st[l]? =some (.list (ys.map f)))(hk:ys.length<bp)
 (hb:∀y (P:List V->ah->Prop),y∈ys->P [g y] st->wp (body (f y)) P st) (he:Q (ys.map g) st):wp (fB (.list l) body bp 0 []) Q st:=vk (λY=>true) g hl hk hb ((Lo.mpr λY Y=>rfl)▸he)
def ab5{st:ah}{l:Nat}{Q:List V->ah->Prop}{ys:List (α×β)}{ke:α->V}{ve:β->V}(p:α×β->Bool)(g:α×β->V)(hl:st[l]? =some (.dict (enc ke ve ys) (some ep)))(hi:∀a,(ke a).isInt=true)(hk:ys.length<bp)
 (hb:∀y (P:List V->ah->Prop),y∈ys->P (if p y=true then[g y]else[]) st->wp (body (ke y.1)) P st) (he:Q ((ys.filter p).map g) st):wp (fB (.dict l (enc ke ve ys).length ep) body bp 0 []) Q st:=
 ab4 hl (λi acc=>acc=((ys.take i).filter p).map g) rfl (rwE encl hk) (nv hi _) (λi y acc P hy h re=>by
  obtain⟨z,hz,e⟩:=gV.mp (fh.symm.trans hy);rw[<-e];exact hb z P (jL hz) (re _ (h▸MZ hk hz) (by rw[h,ta hz]))) λacc h=>by rw[h,encl,jY];exact he
end
variable{n:Str}{a ov:V}{b:Bool}{P':Prop}{sc:cj}
section
abbrev R0{α:Type}(m:M α)(st:ah)(a:α):Prop:=m st=some (a,st)
section
variable{st:ah}
def d8{m:M α}{a:α}{Q:α->ah->Prop}(h:R0 m st a)(k:Q a st):wp m Q st:=by unfold wp;rw[show m st=some (a,st)from h];exact k
def R0.of{m:M α}{a:α}(h:wp m (λb s=>b=a/\s=st) st):R0 m st a:=by obtain⟨b,s,e,rfl,rfl⟩:=wp_run h;exact e
def jZ{a:α}:R0 (rt a) st a:=rfl
def dq{m:M α}{f:α->M β}{a:α}{b:β}(h:R0 m st a)(k:R0 (f a) st b):R0 (bd m f) st b:=by show bd m f st=_;unfold bd;rw[show m st=some (a,st)from h];exact k
end
abbrev Bu:V:=.tup (fZ.map λt=>gZ (aV t))
abbrev sB(a b:Str):Bool:=PySem.W.Fast.lEq a.cps.toList b.cps.toList
def Bv{a b:Str}:sB a b=true<->a=b:=by
 unfold sB;rw[PySem.W.Fast.lEq_iff];constructor
 .intro h;exact congrArg Str.mk (Kv.mp h)
 .rintro rfl;rfl
def xT{a b:Str}(h:sB a b=false):a≠b:=λe=>by rw[Bv.mpr e]at h;cases h
abbrev vm{α:Type}(n:Str)(l:List (Str×α)):Option α:= @o7 (Str×α) (λY=>Option α) none (λp Y ih=> @nB (λY=>Option α) ih (some p.2) (sB n p.1)) l
def M1{α:Type}(n:Str)(l:List (Str×α)):l.lookup n=vm n l:=by
 induction l with
 |nil=>exact rfl
 |cons p r ih=>
  show _= @nB (λY=>Option α) (vm n r) (some p.2) (sB n p.1);rw[oj];cases h:sB n p.1 with
  |true=>rw[beq_iff_eq.mpr (Bv.mp h)]
  |false=>rw[beq_eq_false_iff_ne.mpr (xT h)];exact ih
abbrev vn(aj:aw)(n:Str):Option V:= @o7 (Str×Option V) (λY=>Option V) none (λp Y ih=> @nB (λY=>Option V) ih p.2 (sB p.1 n)) aj
def ab6(n:Str)(l:aw):cF l n=vn l n:=by
 induction l with
 |nil=>exact rfl
 |cons p r ih=>
  show _= @nB (λY=>Option V) (vn r n) p.2 (sB p.1 n);rw[pf];cases h:sB p.1 n with
  |true=>rw[if_pos (Bv.mp h)]
  |false=>rw[if_neg (xT h)];exact ih
abbrev FQ(aj:aw)(n:Str)(v:V):Option aw:= @o7 (Str×Option V) (λY=>Option aw) none (λp r ih=> @nB (λY=>Option aw) (ih.map (p::·)) (some ((p.1,some v)::r)) (sB p.1 n)) aj
def ab7(n:Str)(v:V)(l:aw):jg l n v=FQ l n v:=by
 induction l with
 |nil=>exact rfl
 |cons p r ih=>
  show _= @nB (λY=>Option aw) ((FQ r n v).map (p::·)) (some ((p.1,some v)::r)) (sB p.1 n);rw[yV];cases h:sB p.1 n with
  |true=>rw[if_pos (Bv.mp h)]
  |false=>rw[if_neg (xT h),ih]
abbrev odd(n:Str):Bool:=sB n (sz "__debug__")||sB n (sz "__classdict__")
def ab8(h:odd n=false):(isName "__debug__" n||isName "__classdict__" n)=false:=by unfold odd at h;rw[z9]at h⊢;exact⟨decide_eq_false (xT h.1),decide_eq_false (xT h.2)⟩
abbrev Bw(sc:cj)(aj:aw)(n:Str):Option V:=if odd n then none else match vm n sc.names with
 |some .globalImplicit=>qL n aY.consts
 |some .local=>vn aj n
 |some .cell=>vn aj n
 |some .free=>vn aj n
 |_=>none
abbrev M3(sc:cj)(n:Str):Bool:=match vm n sc.names with
 |some .local=>true
 |some .cell=>true
 |_=>false
abbrev FR(e:Expr):Bool:= !Nat.beq e.ctorIdx 26
variable{l r x:Expr}{b:V}
section
variable{st:ah}{aj:aw}
def FT(h:Bw sc aj n=some v):R0 ((ip (k+1)).ev ⟨sc,aj⟩ (.Name n p)) st v:=by
 rw[eZ];unfold Bw at h;show R0 (if¬(isName "__debug__" n||isName "__classdict__" n)=true then _ else _) st v;cases ho:odd n with
 |true=>rw[ho]at h;cases h
 |false=>
  rw[ho]at h;rw[if_pos (by rw[ab8 ho];simp)];unfold kind;rw[M1];revert h;cases vm n sc.names with
  |none=>intro h;cases h
  |some kd=>cases kd<;>intro h<;>first|(cases h)|(show op (cF aj n) st=_;rw[ab6,show vn aj n=some v from h];rfl)|(rw[show qL n aY.consts=some v from h];rfl)
def ab9(h:Bw sc aj (sz "BY_ARGUMENTS")=some (.str (sz "arguments"))):R0 ((ip (k+1)).ev ⟨sc,aj⟩ (.Name (sz "BY_ARGUMENTS") p)) st (.str (sz "arguments")):=FT h
def ab'(h:Bw sc aj (sz "_law_nine")=some Bu):R0 ((ip (k+1)).ev ⟨sc,aj⟩ (.Name (sz "_law_nine") p)) st Bu:=FT h
def aca{c:Const}{aa:aO}(h:tX c=some v):R0 ((ip (k+1)).ev aa (.Constant c j p)) st v:=by rw[eZ];show op (tX c) st=_;rw[h];rfl
def acb{aa:aO}{o:Expr}(a:R0 ((ip k).ev aa o) st ov)(b:R0 (getAttr aY ov n) st v)(ok:lJ o=true:=by rfl):R0 ((ip (k+1)).ev aa (.Attribute o n p)) st v:=by rw[eZ];show R0 (if lJ o=true then _ else _) st v;rw[if_pos ok];exact dq a b
def M4{aa:aO}{o i:Expr}(ok:FR i=true):(ip (k+1)).ev aa (.Subscript o i p)=bd ((ip k).ev aa o) λov=>bd ((ip k).ev aa i) λiv=>getItem ov iv:=by
 rw[eZ];cases i<;>first|rfl|cases ok
def acd{aa:aO}{o i:Expr}{iv:V}(a:R0 ((ip k).ev aa o) st ov)(b:R0 ((ip k).ev aa i) st iv)(g:R0 (getItem ov iv) st v)(ok:FR i=true:=by rfl):R0 ((ip (k+1)).ev aa (.Subscript o i p)) st v:=by rw[M4 ok];exact dq a (dq b g)
def ace{aa:aO}(x:R0 ((ip k).ev aa l) st a)(y:R0 ((ip k).ev aa r) st b)(g:R0 (cmp o a b) st v):R0 ((ip (k+1)).ev aa (.Compare l [o] [r] p)) st v:=by rw[eZ];exact dq x (dq y g)
def acf{aa:aO}{o:Operator}(x:R0 ((ip k).ev aa l) st a)(y:R0 ((ip k).ev aa r) st b)(g:R0 (binop o a b) st v):R0 ((ip (k+1)).ev aa (.BinOp l o r p)) st v:=by rw[eZ];exact dq x (dq y g)
def acg{aa:aO}{i:Int}(h:R0 ((ip k).ev aa x) st (.int i)):R0 ((ip (k+1)).ev aa (.UnaryOp .USub x p)) st (.int (-i)):=by rw[eZ];exact dq h jZ
def ach{aa:aO}{b:Bool}(h:R0 ((ip k).ev aa x) st (.bool b)):R0 ((ip (k+1)).ev aa (.UnaryOp .Not x p)) st (.bool !b):=by rw[eZ];exact dq h (dq (a:=b) rfl jZ)
def aci{I:aT}{aa:aO}:R0 (dy I aa []) st []:=rfl
def acj{I:aT}{aa:aO}{e:Expr}{r:List Expr}{vs:List V}(x:R0 (I.ev aa e) st v)(y:R0 (dy I aa r) st vs):R0 (dy I aa (e::r)) st (v::vs):=dq x (dq y jZ)
def ack{aa:aO}{es:List Expr}{vs:List V}(x:R0 (dy (ip k) aa es) st vs)(hc:pd vs.length 100=true:=by rfl):R0 ((ip (k+1)).ev aa (.Tuple es j p)) st (.tup vs):=by rw[eZ];refine dq x (dq (a:=()) ?_ jZ);unfold fits;rw[if_pos (bx (pC hc) (by decide))];rfl
def acm{aa:aO}{dP:Decidable P}(h:R0 ((ip k).b7 aa x) st (decide P)):R0 ((ip (k+1)).b7 aa (.UnaryOp .Not x p)) st (decide ¬P):=by rw[p7];refine dq h ?_;rw[decide_not];exact jZ
def M5{aa:aO}{dP:Decidable P}(x:R0 ((ip k).ev aa l) st a)(y:R0 ((ip k).ev aa r) st b)(g:R0 (cmp o a b) st (.bool (decide P))):R0 ((ip (k+1)).b7 aa (.Compare l [o] [r] p)) st (decide P):=by rw[p7];exact dq x (dq y (dq g rfl))
def acn{aa:aO}{c:Bool}(x:R0 ((ip k).ev aa l) st a)(y:R0 ((ip k).ev aa r) st b)(g:R0 (cmp o a b) st (.bool c)):R0 ((ip (k+1)).b7 aa (.Compare l [o] [r] p)) st (decide (c=true)):=M5 x y (by rw[aco];exact g)
def acp{aa:aO}{a b:Expr}{dP:Decidable P}{dP':Decidable P'}(x:R0 ((ip k).b7 aa a) st (decide P))(y:R0 ((ip k).b7 aa b) st (decide P')):R0 ((ip (k+1)).b7 aa (.BoolOp .And [a,b] p)) st (decide (P/\P')):=by
 rw[p7];by_cases h:P
 .by_cases h':P'
  .simp only[h,h']at*;exact dq x (dq y jZ)
  .simp only[h,h']at*;exact dq x (dq y jZ)
 .simp only[h]at*;exact dq x jZ
def acq{aa:aO}{a b:Expr}{dP:Decidable P}{dP':Decidable P'}(x:R0 ((ip k).b7 aa a) st (decide P))(y:R0 ((ip k).b7 aa b) st (decide P')):R0 ((ip (k+1)).b7 aa (.BoolOp .Or [a,b] p)) st (decide (P\/P')):=by
 rw[p7];by_cases h:P
 .simp only[h]at*;exact dq x jZ
 .by_cases h':P'
  .simp only[h,h']at*;exact dq x (dq y jZ)
  .simp only[h,h']at*;exact dq x (dq y jZ)
def acr{aa:aO}{b:Bool}(h:R0 ((ip k).ev aa (.Name n p)) st (.bool b)):R0 ((ip (k+1)).b7 aa (.Name n p)) st (decide (b=true)):=by rw[p7,aco];exact dq h rfl
end
end
variable{f:Str}{w:bR}{s:ah}
section
variable{i j:Int}
section
variable{st:ah}
abbrev M6(ab:HR->Nat)(n:Str):Option V:=if dR n aY.attrs then eV (oH ab) n else none
def acs [hR:Rep c H st] (h:M6 c.ab n=some v):R0 (getAttr aY (.ab (c.ab .inst)) n) st v:=by
 unfold M6 at h;split at h
 .rename_i h1;exact .of ((aaG h1 h).mpr ⟨rfl,rfl⟩)
 .cases h
def acu [hR:Rep c H st]:R0 (getAttr aY (.ab (c.ab .gg)) (sz "term_args")) st (.ab (c.ab .gJ)):=.of (aaH.mpr ⟨rfl,rfl⟩)
def acv [hR:Rep c H st]:R0 (getAttr aY (.ab (c.ab .gg)) (sz "term_datas")) st (.ab (c.ab .gK)):=.of (aaI.mpr ⟨rfl,rfl⟩)
def acw [hR:Rep c H st]:R0 (getItem (.ab (c.ab .ae)) (tm t)) st (tm (H.k.ae t)):=.of ((aaO t).mpr ⟨rfl,rfl⟩)
def acx [hR:Rep c H st]:R0 (getItem (.ab (c.ab .members)) (tm t)) st (.ab (c.ab (.mem t))):=.of ((aaP t).mpr ⟨rfl,rfl⟩)
def acy [hR:Rep c H st]:R0 (getItem (.ab (c.ab .uses)) (tm t)) st (.ab (c.ab (.use t))):=.of ((aaQ t).mpr ⟨rfl,rfl⟩)
def acz [hR:Rep c H st]:R0 (getItem (.ab (c.ab .value)) (tm t)) st (oz (H.k.val t)):=.of ((aaR t).mpr ⟨rfl,rfl⟩)
def acA [hR:Rep c H st]:R0 (getItem (.ab (c.ab .apart)) (tm t)) st (.ab (c.ab (.aD t))):=.of ((aaS t).mpr ⟨rfl,rfl⟩)
def acB [hR:Rep c H st]:R0 (getItem (.ab (c.ab .watchers)) (tm t)) st (.ab (c.ab (.aS t))):=.of ((aaT t).mpr ⟨rfl,rfl⟩)
def acC [hR:Rep c H st] {t:aW}:R0 (getItem (.ab (c.ab .oE)) (bJ t)) st (.tup [tm (aV t).1,tm (aV t).2]):=.of ((aaV t).mpr ⟨rfl,rfl⟩)
abbrev M7(xs:List V)(i:Int):Option V:=if pd xs.length 100 then(idx xs.length i).bind λj=>xs[j]? else none
def M8{xs:List V}(h:M7 xs i=some v):R0 (getItem (.tup xs) (.int i)) st v:=by
 unfold M7 at h;split at h
 .rename_i hc;refine dq (a:=()) ?_ (rwE h jZ);unfold fits;rw[if_pos (bx (pC hc) (by decide))];rfl
 .cases h
def acD{b:V}{dP:Decidable P}(h:bZ 6 st a b=some (decide P)):R0 (cmp .Eq a b) st (.bool (decide P)):=.of ((aaA h).mpr ⟨rfl,rfl⟩)
def acE{b:V}{dP:Decidable P}(h:bZ 6 st a b=some (decide P)):R0 (cmp .NotEq a b) st (.bool (decide ¬P)):=.of ((xE h).mpr ⟨by rw[decide_not],rfl⟩)
def acF{a:Option Th}:bZ 6 st (oz a) (.int 0)=some (decide (a=none)):=by rw[aaC];cases a<;>simp
def acG:bZ 6 st (wv w) (.str (sz "arguments"))=some (decide (w=none)):=by rw[aaE];cases w<;>simp
def acH{a:Option Th}:R0 (cmp .Is (on a) .none) st (.bool (decide (a=none))):=.of ((aaF a).mpr ⟨by cases a<;>simp,rfl⟩)
def acI{a:Option Sep}:R0 (cmp .Is (Bq a) .none) st (.bool (decide (a=none))):=.of ((abS a).mpr ⟨by cases a<;>simp,rfl⟩)
def acJ:R0 (cmp .Is .none .none) st (.bool true):=rfl
def acK:R0 (cmp .IsNot .none .none) st (.bool false):=rfl
def acL:R0 (cmp .Is (.ab l) .none) st (.bool false):=rfl
def M9{l:List V}:R0 (cmp .Is (.tup l) .none) st (.bool false):=rfl
def M':R0 (cmp .Lt (.int i) (.int j)) st (.bool (decide (i<j))):=rfl
def Na:R0 (cmp .LtE (.int i) (.int j)) st (.bool (decide (i<=j))):=rfl
def Nb:R0 (cmp .Gt (.int i) (.int j)) st (.bool (decide (j<i))):=rfl
def Nc:R0 (cmp .GtE (.int i) (.int j)) st (.bool (decide (j<=i))):=rfl
def acM{b:Bool}(h:R0 (contains a v) st b):R0 (cmp .In a v) st (.bool b):=dq h jZ
def acN{dP:Decidable P}(h:R0 (contains a v) st (decide P)):R0 (cmp .NotIn a v) st (.bool (decide ¬P)):=dq h (rwE decide_not jZ)
def acO [hR:Rep c H st]:R0 (contains (tm t) (.ab (c.ab .ae))) st (decide True):=.of (aaW.mpr ⟨by simp,rfl⟩)
def acP [hR:Rep c H st]:R0 (contains (tm t) (.ab (c.ab .up))) st (decide ((H.k.up t).isSome=true)):=.of (aaX.mpr ⟨by simp,rfl⟩)
def acQ [hR:Rep c H st] {t:aW}:R0 (contains (bJ t) (.ab (c.ab .aA))) st (decide ((H.k.aA t).isSome=true)):=.of (aaY.mpr ⟨by simp,rfl⟩)
def Nd:R0 (binop .Add (.int i) (.int j)) st (.int (i+j)):=rfl
def Nf:R0 (binop .Sub (.int i) (.int j)) st (.int (i-j)):=rfl
def Ng{xs:List V}:R0 (jJ (.tup xs)) st xs:=rfl
def acR{xs:List V}:R0 (srcOf (.tup xs)) st (.items xs):=rfl
def acS{n:Nat}:R0 (srcOf (.cY n)) st (.items ((f' n).map λ(k:Nat)=>V.int k)):=rfl
def acT [hR:Rep c H st]:R0 (srcOf (.ab (c.ab (.mem t)))) st (.list (c.ab (.mem t))):=.of (abp.mpr ⟨rfl,rfl⟩)
def acU [hR:Rep c H st]:R0 (srcOf (.ab (c.ab (.use t)))) st (.list (c.ab (.use t))):=.of (abq.mpr ⟨rfl,rfl⟩)
def acV [hR:Rep c H st]:R0 (srcOf (.ab (c.ab (.aD t)))) st (.list (c.ab (.aD t))):=.of (abr.mpr ⟨rfl,rfl⟩)
def acW [hR:Rep c H st]:R0 (srcOf (.ab (c.ab (.aS t)))) st (.list (c.ab (.aS t))):=.of (abt.mpr ⟨rfl,rfl⟩)
def acX [hR:Rep c H st]:R0 (srcOf (.ab (c.ab .bk))) st (.list (c.ab .bk)):=.of (abu.mpr ⟨rfl,rfl⟩)
def acY [hR:Rep c H st]:R0 (srcOf (.ab (c.ab .ae))) st (.dict (c.ab .ae) 7 c.rep):=.of (abU.mpr ⟨rfl,rfl⟩)
end
abbrev K1(Q:β->ah->Prop)(f:α->M β)(a:α)(s:ah):Prop:=wp (f a) Q s
def k_K1{Q:β->ah->Prop}{f:α->M β}{a:α}(h:wp (f a) Q s):K1 Q f a s:=h
def k_bd{Q:β->ah->Prop}{m:M α}{f:α->M β}{st:ah}(h:wp m (K1 Q f) st):wp (bd m f) Q st:=by rw[aZ];exact h
def acZ{J:aw->ah->Prop}{Q:Fl×aw->ah->Prop}{aj:aw}{st:ah}(h:J aj st):lq J Q (.next,aj) st:=h
def ac0{J:aw->ah->Prop}{Q:Fl×aw->ah->Prop}{aj:aw}{st:ah}(h:Q (.ret v,aj) st):lq J Q (.ret v,aj) st:=h
def ac2{Q:V->ah->Prop}{aj:aw}{st:ah}(h:Q v st):rq Q (.ret v,aj) st:=h
def ac6{Q:V->ah->Prop}{aj:aw}{st:ah}(h:Q .none st):rq Q (.next,aj) st:=h
@[reducible] abbrev xsK(I:aT)(sc:cj)(r:List Stmt)(aj:aw):M (Fl×aw):=xs I ⟨sc,aj⟩ r
@[reducible] abbrev ac8(I:aT)(sc:cj)(r:List Stmt)(aj:aw)(t:Expr)(v:V):M (Fl×aw):=bd (ef aY I ⟨sc,aj⟩ t v) (xsK I sc r)
@[reducible] abbrev Nh(I:aT)(sc:cj)(r:List Stmt)(aj:aw)(_:α):M (Fl×aw):=xs I ⟨sc,aj⟩ r
@[reducible] abbrev ac9(I:aT)(sc:cj)(r:List Stmt)(aj:aw)(ov iv:V):M (Fl×aw):=bd (delD ov iv) (Nh I sc r aj)
@[reducible] abbrev ac'(I:aT)(sc:cj)(r:List Stmt)(aj:aw)(i:Expr)(ov:V):M (Fl×aw):=bd (I.ev ⟨sc,aj⟩ i) (ac9 I sc r aj ov)
variable{e:Expr}{ts:List Expr}{b o:List Stmt}
section
variable{I:aT}{aj:aw}{r:List Stmt}{Q:Fl×aw->ah->Prop}{st:ah}
def ada(h:wp (xs I ⟨sc,aj⟩ r) Q st):mf I sc r Q (.next,aj) st:=h
def adb(h:Q (.ret v,aj) st):mf I sc r Q (.ret v,aj) st:=h
def ade(h:Q (.next,aj) st):wp (xs I ⟨sc,aj⟩ []) Q st:=LZ h
abbrev Bx:aw->Option aw
 |[]=>some []
 |p::r=>(Bx r).map (p::·)
def FU:∀l:aw,Bx l=some l
 |[]=>rfl
 |p::r=>congrArg (wH (p::·)) (FU r)
abbrev Ni(sc:cj)(ps:List Str)(as:List V):Option aw:=(r7 (qO sc) ps as).bind Bx
def adf{sc:cj}{ps:List Str}{as:List V}{aj:aw}(h:Ni sc ps as=some aj):r7 (qO sc) ps as=some aj:=by
 obtain⟨v,h1,h2⟩:=fg.mp h;rw[FU]at h2;exact h1.trans h2
def s_call{c f:String}{as:List V}{Q:V->ah->Prop}{ps:List Str}{body:List Stmt}{aj:aw}
 (h1:ij (sz c,sz f) aY.tab=some ⟨ps,body,sc⟩) (h2:Ni sc ps as=some aj) (h:wp (xs (ip k) ⟨sc,aj⟩ body) (rq Q) st):wp ((ip (k+2)).call (sz c,sz f) as) Q st:=wp_call h1 (adf h2) h
abbrev tc(sc:cj)(aj:aw)(n:Str)(v:V):Option aw:=if M3 sc n then FQ aj n v else none
def FV(h:tc sc aj n v=some ax):R0 (ji aY I (d+1) ⟨sc,aj⟩ (.Name n p) v) st ax:=by
 show R0 (rZ ⟨sc,aj⟩ n v) st ax;unfold tc M3 at h;unfold rZ kind;dsimp only;rw[M1];rw[<-ab7]at h;generalize vm n sc.names=o at*;cases o with
 |none=>cases h
 |some kd=>cases kd<;>first|(cases h)|(rw[show jg aj n v=some ax from h];rfl)
abbrev FW(c:Cl):Option Str:=Cl.casesOn (motive:=λY=>Option Str) c some (λY=>none) (λY Y=>none) (λY Y=>none) (λY=>none) (λY Y Y=>none) none none none
def nmCl_some{c:Cl}(h:FW c=some n):c= .name n:=by cases c<;>first|cases h;rfl|cases h
abbrev rM(sc:cj):aw->List Expr->List V->Option aw
 |aj,[],vs=>(match vs with|[]=>some aj|_::_=>none)
 |aj,t::ts,vs=>(match vs with|[]=>none|v::vs=>(FW (cl t)).bind λn=>(tc sc aj n v).bind λax=>rM sc ax ts vs)
def adg(h:cl e= .name n):∃p,e= .Name n p:=by have a:=og e;rw[h]at a;exact a
def adh{t:Expr}{vs:List V}{aj:aw}(h:rM sc aj (t::ts) vs=some ax)(k:∀n p v lN v1,t= .Name n p->vs=v::lN->tc sc aj n v=some v1->rM sc v1 ts lN=some ax->C):C:=by
 cases vs with
 |nil=>exact nomatch h
 |cons v vs=>refine(fg.mp (show(FW (cl t)).bind (λn=>(tc sc aj n v).bind λax=>rM sc ax ts vs)=some ax from h)).elim λn h=> ?_;exact(adg (nmCl_some h.1)).elim λp e=>(fg.mp h.2).elim λv1 h=>k n p v vs v1 e rfl h.1 h.2
def Nj:∀{vs:List V} {aj ax:aw},rM sc aj ts vs=some ax->R0 (jh (ji aY I (d+1)) ⟨sc,aj⟩ ts vs) st ax/\vs.length=ts.length:=by
 induction ts with
 |nil=>
  intro vs aj ax h;cases vs with
  |nil=>exact⟨congrArg (λx=>some (x,st)) (bF h),rfl⟩
  |cons=>exact nomatch h
 |cons t ts ih=>intro vs aj ax h;refine adh h λn p v lN v1 e1 e2 h1 h2=> ?_;rw[e1,e2];exact⟨dq (FV h1) (ih h2).1,congrArg n8 (ih h2).2⟩
def Nk{d:Nat}{j:Nat}{xs:List V}(hu:R0 (jJ v) st xs)(h:rM sc aj ts xs=some ax):R0 (ji aY I (d+2) ⟨sc,aj⟩ (.Tuple ts j p) v) st ax:=by refine dq hu ?_;rw[if_pos (Nj (I:=I) (d:=d) (st:=st) h).2];exact(Nj h).1
def adi(x:R0 ((ip k).ev ⟨sc,aj⟩ e) st v)(ok:n5 (.Name n p) e=true)(h:tc sc aj n v=some ax)(y:wp (xs (ip k) ⟨sc,ax⟩ r) Q st):wp (xs (ip k) ⟨sc,aj⟩ (.Assign [.Name n p] e q::r)) Q st:=E1 ok (d8 x (d8 (FV h) y))
def adj{j:Nat}{vb:List V}(x:R0 ((ip k).ev ⟨sc,aj⟩ e) st v)(ok:n5 (.Tuple ts j p) e=true)(hu:R0 (jJ v) st vb)(h:rM sc aj ts vb=some ax)(y:wp (xs (ip k) ⟨sc,ax⟩ r) Q st):
 wp (xs (ip k) ⟨sc,aj⟩ (.Assign [.Tuple ts j p] e q::r)) Q st:=E1 ok (d8 x (d8 (Nk hu h) y))
def adk{t:Expr}(ok:n5 t e=true)(h:wp (bd (I.ev ⟨sc,aj⟩ e) (ac8 I sc r aj t)) Q st):wp (xs I ⟨sc,aj⟩ (.Assign [t] e q::r)) Q st:=by rw[aZ]at h;exact E1 ok (wp_mono h λv U h=>by rw[aZ]at h;exact h)
def adl(ok:pn e=true)(h:wp (bd (I.ev ⟨sc,aj⟩ e) (Nh I sc r aj)) Q st):wp (xs I ⟨sc,aj⟩ (.Expr e q::r)) Q st:=by rw[aZ]at h;exact aaw ok h
def Nl{t:Expr}{dP:Decidable P}(x:R0 ((ip (k+1)).b7 ⟨sc,aj⟩ t) st (decide P))(h:if P then wp (xs (ip k) ⟨sc,aj⟩ b) (mf (ip (k+1)) sc r Q) st else wp (xs (ip k) ⟨sc,aj⟩ o) (mf (ip (k+1)) sc r Q) st):
 wp (xs (ip (k+1)) ⟨sc,aj⟩ (.If t b o q::r)) Q st:=by
 refine E6 (d8 x ?_);rw[sR,sR];by_cases h':P
 .rw[if_pos h']at h;rw[if_pos (decide_eq_true h')];exact h
 .rw[if_neg h']at h;rw[if_neg (by simpa using h')];exact h
def Nm:mf I sc [] Q=Q:=by
 funext q st;obtain⟨f,v⟩:=q;cases f with
 |next=>show wp (xs I ⟨sc,v⟩ []) Q st=_;unfold xs;exact bC
 |ret w=>rfl
def adm{t:Expr}{dP:Decidable P}(x:R0 ((ip (k+1)).b7 ⟨sc,aj⟩ t) st (decide P))(h:if P then wp (xs (ip k) ⟨sc,aj⟩ b) Q st else wp (xs (ip k) ⟨sc,aj⟩ o) Q st):
 wp (xs (ip (k+1)) ⟨sc,aj⟩ [.If t b o q]) Q st:=Nl x (by rw[Nm];exact h)
abbrev Nn(I:aT)(sc:cj)(r:List Stmt)(Q:Fl×aw->ah->Prop)(b o:M (Fl×aw))(c:Bool)(s:ah):Prop:=if c=true then wp b (mf I sc r Q) s else wp o (mf I sc r Q) s
def adn{b o:M (Fl×aw)}{c:Bool}(h:if c=true then wp b (mf I sc r Q) s else wp o (mf I sc r Q) s):Nn I sc r Q b o c s:=h
def ado{t:Expr}(h:wp ((ip (k+1)).b7 ⟨sc,aj⟩ t) (Nn (ip (k+1)) sc r Q (xs (ip k) ⟨sc,aj⟩ b) (xs (ip k) ⟨sc,aj⟩ o)) st):
 wp (xs (ip (k+1)) ⟨sc,aj⟩ (.If t b o q::r)) Q st:=by
 refine E6 (wp_mono h λc U h=> ?_);rw[sR,sR];exact h
def adp(x:R0 (I.ev ⟨sc,aj⟩ e) st v)(h:Q (.ret v,aj) st):wp (xs I ⟨sc,aj⟩ (.Return (some e) q::r)) Q st:=Ma (d8 x h)
abbrev Np(Q:Fl×aw->ah->Prop)(aj:aw)(v:V)(s:ah):Prop:=Q (.ret v,aj) s
def adq(h:Q (.ret v,aj) s):Np Q aj v s:=h
def ads(h:wp (I.ev ⟨sc,aj⟩ e) (Np Q aj) st):wp (xs I ⟨sc,aj⟩ (.Return (some e) q::r)) Q st:=Ma h
def adt(h:Q (.ret .none,aj) st):wp (xs I ⟨sc,aj⟩ (.Return none q::r)) Q st:=aax h
def adu{t:Expr}(h:wp (pg (λaj=>I.b7 ⟨sc,aj⟩ t) (λaj=>I.cZ ⟨sc,aj⟩ b) bp aj) (mf I sc r Q) st):wp (xs I ⟨sc,aj⟩ (.While t b [] q::r)) Q st:=aay h
abbrev xU(e:Expr):Bool:=match cl e with
 |.call h _ _=>(match cl h with|.name f=> !isName "enumerate" f|_=>true)
 |_=>true
def Nq{aa:aO}{t it:Expr}(h:xU it=true):jK I aa t it=bd (I.ev aa it) srcOf:=by
 have e:t4 aa it=none:=by
  unfold xU at h;unfold t4;cases hc:cl it with
  |call g bs ks=>
   rw[hc]at h;have h:(match cl g with|.name f=> !isName "enumerate" f|_=>true)=true:=h;show(match cl g with|.name f=>if isName "enumerate" f && kind aa f==some .globalImplicit && ks.isEmpty then CJ bs else none|_=>none)=none;cases hg:cl g with
   |name f=>rw[hg]at h;exact if_neg (by rw[(uT _).mp h];exact pQ)
   |_=>rfl
  |_=>rfl
 unfold jK;rw[e]
def Nr{t it:Expr}(x:R0 (I.ev ⟨sc,aj⟩ it) st v)(y:R0 (srcOf v) st src)(ok:xU it=true)
 (h:wp (forL src (λv aj=>bd (ef aY I ⟨sc,aj⟩ t v) λax=>I.cZ ⟨sc,ax⟩ b) bp 0 aj) (mf I sc r Q) st):wp (xs I ⟨sc,aj⟩ (.For t it b [] q::r)) Q st:=by
 refine Mb ?_;rw[Nq ok];exact d8 (dq x y) h
def adv{t it:Expr}(x:R0 (I.ev ⟨sc,aj⟩ it) st v)(y:R0 (srcOf v) st src)(ok:xU it=true)
 (h:wp (forL src (λv aj=>bd (ef aY I ⟨sc,aj⟩ t v) λax=>I.cZ ⟨sc,ax⟩ b) bp 0 aj) Q st):wp (xs I ⟨sc,aj⟩ [.For t it b [] q]) Q st:=Nr x y ok (by rw[Nm];exact h)
def adw{t it:Expr}(ok:xU it=true)
 (h:wp (bd (I.ev ⟨sc,aj⟩ it) λv=>bd (srcOf v) λsrc=>forL src (λv aj=>bd (ef aY I ⟨sc,aj⟩ t v) λax=>I.cZ ⟨sc,ax⟩ b) bp 0 aj) (mf I sc r Q) st):wp (xs I ⟨sc,aj⟩ (.For t it b [] q::r)) Q st:=by
 refine Mb ?_;rw[Nq ok,aZ];rw[aZ]at h;exact wp_mono h λv U h=>by rw[aZ]at h;exact h
def adx{o i:Expr}(h:wp (bd (I.ev ⟨sc,aj⟩ o) (ac' I sc r aj i)) Q st):wp (xs I ⟨sc,aj⟩ (.Delete [.Subscript o i p] q::r)) Q st:=by rw[aZ]at h;exact aaZ (wp_mono h λv U h=>by rw[aZ]at h;exact wp_mono h λw U h=>by rw[aZ]at h;exact h)
end
end
variable{n:Nat}{y:Th×Th}
section
section
variable(I:aT)(aa:aO)
@[reducible] abbrev ady(i:Expr)(ov:V):M V:=bd (I.ev aa i) (getItem ov)
@[reducible] abbrev adz(o:CmpOp)(r:Expr)(a:V):M V:=bd (I.ev aa r) (cmp o a)
@[reducible] abbrev adA(o:Operator)(r:Expr)(a:V):M V:=bd (I.ev aa r) (binop o a)
@[reducible] abbrev adB(as:List Expr)(n:Str)(ov:V)(k:MK):M V:=bd (dy I aa as) (eC I k ov n)
@[reducible] abbrev adC(as:List Expr)(n:Str)(ov:V):M V:=bd (fU ov n) (adB I aa as n ov)
@[reducible] abbrev adD(v:V)(vs:List V):M (List V):=rt (v::vs)
@[reducible] abbrev adE(r:List Expr)(v:V):M (List V):=bd (dy I aa r) (adD v)
@[reducible] abbrev adF(o:CmpOp)(a b:V):M Bool:=bd (cmp o a b) truthy
@[reducible] abbrev adG(o:CmpOp)(r:Expr)(a:V):M Bool:=bd (I.ev aa r) (adF o a)
@[reducible] abbrev Nt(aj:aw)(_:Unit):M aw:=rt aj
@[reducible] abbrev attrS(n:Str)(v:V)(aj:aw)(ov:V):M aw:=bd (setAttr aY ov n v) (Nt aj)
@[reducible] abbrev adH(v:V)(aj:aw)(ov iv:V):M aw:=bd (eU ov iv v) (Nt aj)
@[reducible] abbrev adI(i:Expr)(v:V)(aj:aw)(ov:V):M aw:=bd (I.ev aa i) (adH v aj ov)
@[reducible] abbrev adJ(vs:List V)(_:Unit):M V:=rt (.tup vs)
@[reducible] abbrev adK(vs:List V):M V:=bd (fits vs.length) (adJ vs)
@[reducible] abbrev adL(n:Str)(ov:V):M V:=getAttr aY ov n
@[reducible] abbrev adM(t:Bool):M V:=rt (.bool t)
@[reducible] abbrev adN(t:Bool):M V:=rt (.bool !t)
end
variable{o e x t elt:Expr}{n:Str}{es as r ts:List Expr}{b:Prop}
section
variable{st:ah}{aa:aO}
def adO(ok:lJ o=true)(h:wp (bd ((ip k).ev aa o) (adL n)) Q st):wp ((ip (k+1)).ev aa (.Attribute o n p)) Q st:=by rw[eZ];show wp (if lJ o=true then _ else _) Q st;rw[if_pos ok];exact h
def adP{i:Expr}(ok:FR i=true)(h:wp (bd ((ip k).ev aa o) (ady (ip k) aa i)) Q st):wp ((ip (k+1)).ev aa (.Subscript o i p)) Q st:=by rw[M4 ok];exact h
def adQ{lo hi:Option Expr}(h:wp (bd ((ip k).ev aa o) λov=>bd (lI (ip k) aa lo) λa=>bd (lI (ip k) aa hi) λb=>bd (getL ov) λp=>cg (pb p.2 a b)) Q st):
 wp ((ip (k+1)).ev aa (.Subscript o (.Slice lo hi none q) p)) Q st:=by
 rw[eZ];exact h
abbrev Nu(ov s:V):M V:=bd (cR s) λi=>if i= -1 then bd (getL ov) λp=>cg p.2.reverse else er
def adR(h:wp (bd ((ip k).ev aa o) λov=>bd ((ip k).ev aa e) λi=>Nu ov i) Q st):wp ((ip (k+1)).ev aa (.Subscript o (.Slice none none (some e) q) p)) Q st:=by rw[eZ];exact h
def adS(h:wp (bd (getL ov) λp=>cg p.2.reverse) Q st):wp (Nu ov (.int (-1))) Q st:=h
def adT{o:CmpOp}{l r:Expr}(h:wp (bd ((ip k).ev aa l) (adz (ip k) aa o r)) Q st):wp ((ip (k+1)).ev aa (.Compare l [o] [r] p)) Q st:=by rw[eZ];exact h
def adU{o:Operator}{l r:Expr}(h:wp (bd ((ip k).ev aa l) (adA (ip k) aa o r)) Q st):wp ((ip (k+1)).ev aa (.BinOp l o r p)) Q st:=by rw[eZ];exact h
def adV(h:wp (bd (dy (ip k) aa es) adK) Q st):wp ((ip (k+1)).ev aa (.Tuple es j p)) Q st:=by rw[eZ];exact h
def adW(h:wp (bd (dy (ip k) aa es) cg) Q st):wp ((ip (k+1)).ev aa (.List es p)) Q st:=by rw[eZ];exact h
def adX(h:wp (bd ((ip k).ev aa x) λv=>bd (truthy v) λt=>rt (.bool !t)) Q st):wp ((ip (k+1)).ev aa (.UnaryOp .Not x p)) Q st:=by rw[eZ];exact h
def adY{b:Expr}{dP:Decidable P}(x:R0 ((ip k).b7 aa t) st (decide P))(h:if P then wp ((ip k).ev aa b) Q st else wp ((ip k).ev aa o) Q st):wp ((ip (k+1)).ev aa (.IfExp t b o p)) Q st:=by
 rw[eZ];show wp (bd _ _) Q st;rw[aZ]
 refine d8 x ?_;by_cases h':P
 .rw[if_pos h']at h;rw[if_pos (decide_eq_true h')];exact h
 .rw[if_neg h']at h;rw[if_neg (by simpa using h')];exact h
def adZ{c:Bool}{a b:M α}{Q:α->ah->Prop}(h:if c=true then wp a Q st else wp b Q st):wp (if c=true then a else b) Q st:=by cases c<;>exact h
def ad0{b:Expr}(h:wp (bd ((ip k).b7 aa t) λc=>if c=true then(ip k).ev aa b else(ip k).ev aa o) Q st):wp ((ip (k+1)).ev aa (.IfExp t b o p)) Q st:=by rw[eZ];exact h
def ad1{ks:List (Option Expr)}{vs:List Expr}(ok:pd ks.length 15=true)(h:wp (bd (je (.dict [] (some 0))) λd=>bd (lH (ip k) aa ks vs) λkvs=>bd (jf d kvs) λY=>rt d) Q st):wp ((ip (k+1)).ev aa (.Dict ks vs p)) Q st:=by rw[eZ];show wp (if ks.length<=15 then _ else _) Q st;rw[if_pos (pC ok)];exact h
def ad2{gens:List c9}(h:wp (comp aY (ip k) aa elt gens scope) Q st):wp ((ip (k+1)).ev aa (.ListComp elt gens scope p)) Q st:=by rw[eZ];exact h
def ad3{ap:Pos}(ok:vX o as ap p=true)(h:wp (bd ((ip k).ev aa o) (adC (ip k) aa as n)) Q st):
 wp ((ip (k+1)).ev aa (.Call (.Attribute o n ap) as [] p)) Q st:=by
 rw[eZ];show wp (if vX o as ap p=true then _ else _) Q st;rw[if_pos ok];exact h
abbrev Nv(aa:aO)(f:Str):Bool:=kind aa f==some .globalImplicit && !isName "__debug__" f
def ad4(ok:Nv aa f=true)(h:wp (kK aY (ip k) aa f as) Q st):wp ((ip (k+1)).ev aa (.Call (.Name f q) as [] p)) Q st:=by rw[eZ];show wp (if Nv aa f=true then _ else _) Q st;rw[if_pos ok];exact h
abbrev FX(e:Expr):Bool:=match cl e with
 |.call h _ ks=> !(isNm h && ks.isEmpty)
 |_=>true
abbrev Nw(as:List Expr):Bool:=match as with|[]=>true|a::r=>match r with|[]=>FX a|_::_=>true
def ad5(ok:Nw as=true):tZ aa f as= .plain:=by
 cases as with
 |nil=>rfl
 |cons a r=>
  cases r with
  |cons _ _=>rfl
  |nil=>
   show CH aa f a= .plain;have ok:FX a=true:=ok;unfold FX at ok;unfold CH;cases hc:cl a with
   |call h bs ks=>
    rw[hc]at ok;have ok:(!(isNm h && ks.isEmpty))=true:=ok;show(match cl h with|.name g=>if ks.isEmpty=true then nZ aa f g bs else .plain|_=>.plain)=vY.plain;unfold isNm at ok;cases hh:cl h with
    |name g=>
     rw[hh]at ok;cases hk:ks.isEmpty with
     |false=>rfl
     |true=>rw[hk]at ok;exact cu ok
    |_=>rfl
   |_=>rfl
def ad6{I:aT}(ok:Nw as=true)(h:wp (bd (dy I aa as) (kJ aY I f)) Q st):wp (kK aY I aa f as) Q st:=by unfold kK;rw[ad5 ok];exact h
abbrev Nx(f g:Str):Bool:=(isName "list" f && isName "zip" g)||(isName "sorted" f && isName "set" g)
def ad7{g:Str}{bs:List Expr}{I:aT}(ok:Nx f g=false)(h:wp (bd (dy I aa [.Call (.Name g q) bs [] p]) λvs=>kJ aY I f vs) Q st):wp (kK aY I aa f [.Call (.Name g q) bs [] p]) Q st:=by
 unfold Nx at ok;rw[z9]at ok;unfold kK;rw[show tZ aa f [.Call (.Name g q) bs [] p]= .plain by show nZ aa f g bs= .plain;unfold nZ;rw[if_neg (by simp[ok.1]),if_neg (by simp[ok.2])]]
 exact h
abbrev FY(a b:V):M V:=bd (lG a) λxs=>bd (lG b) λys=>bd (one xs) λa1=>bd (one ys) λb1=>cg [.tup [a1,b1]]
abbrev Ny(aa:aO)(g:Str):Bool:=kind aa g==some .globalImplicit
def ad8{y:Expr}{I:aT}(ok:Ny aa (sz "zip")=true)(h:wp (bd (I.ev aa x) λa=>bd (I.ev aa y) λb=>FY a b) Q st):wp (kK aY I aa (sz "list") [.Call (.Name (sz "zip") q) [x,y] [] p]) Q st:=by
 have e:kK aY I aa (sz "list") [.Call (.Name (sz "zip") q) [x,y] [] p]=bd (I.ev aa x) λa=>bd (I.ev aa y) λb=>FY a b:=by
  unfold kK;rw[show tZ aa (sz "list") [.Call (.Name (sz "zip") q) [x,y] [] p]= .zip [x,y] by show nZ aa _ _ _=_;unfold nZ;rw[if_pos (by assumption)]]
  rfl
 rw[e];exact h
def ad9{b:V}(h:wp (cg [.tup [a,b]]) Q st):wp (FY (.tup [a]) (.tup [b])) Q st:=h
abbrev By(a:V):M V:=bd (getL a) λp=>bd (op (dZ p.2)) λis=>if pj is=true then cg (is.map .int)else er
def ad'{I:aT}(ok:Ny aa (sz "set")=true)(h:wp (bd (I.ev aa x) λa=>By a) Q st):wp (kK aY I aa (sz "sorted") [.Call (.Name (sz "set") q) [x] [] p]) Q st:=by
 have e:kK aY I aa (sz "sorted") [.Call (.Name (sz "set") q) [x] [] p]=bd (I.ev aa x) λa=>By a:=by
  unfold kK;rw[show tZ aa (sz "sorted") [.Call (.Name (sz "set") q) [x] [] p]= .set [x] by show nZ aa (sz "sorted") (sz "set") [x]=_;unfold nZ;rw[if_neg (by rw[show isName "list" (sz "sorted")=false by decide];simp),if_pos (by assumption)]]
  rfl
 rw[e];exact h
def aea{xs:List V}{is:List Int}(h1:st[l]? =some (.list xs))(h2:dZ xs=some is)(h3:pj is=true)(h:wp (cg (is.map .int)) Q st):wp (By (.ab l)) Q st:=by unfold By;rw[aZ,d5 h1];rw[h2,aZ,pZ,if_pos h3];exact h
def aeb{I:aT}{as:List V}(h1:gF f=none)(h2:dR f aY.classes=false)(h:wp (I.call (sz "",f) as) Q st):wp (kJ aY I f as) Q st:=by unfold kJ;rw[h1];rw[h2];exact h
def aec{I:aT}{b:BI}{as:List V}(h1:gF f=some b)(h:wp (fC b as) Q st):wp (kJ aY I f as) Q st:=by unfold kJ;rw[h1];exact h
def aed{I:aT}{c:Str}{vs:List V}(h:wp (I.call (c,n) (ov::vs)) Q st):wp (eC I (.inst c) ov n vs) Q st:=h
abbrev FZ(Q:V->ah->Prop)(m:M V)(v:V)(s:ah):Prop:=wp (truthy v) (λt s=>if t=true then Q v s else wp m Q s) s
def aee{m:M V}{b:Bool}(h:if b=true then Q (.bool b) st else wp m Q st):FZ Q m (.bool b) st:=by unfold FZ;rw[Bd];exact h
abbrev F0(Q:V->ah->Prop)(m:M V)(v:V)(s:ah):Prop:=wp (truthy v) (λt s=>if t=true then wp m Q s else Q v s) s
def aef{m:M V}{b:Bool}(h:if b=true then wp m Q st else Q (.bool b) st):F0 Q m (.bool b) st:=by unfold F0;rw[Bd];exact h
def aeg{e2:Expr}(h:wp ((ip k).ev aa e) (FZ Q (gU (ip k) aa .Or (e2::r))) st):wp ((ip (k+1)).ev aa (.BoolOp .Or (e::e2::r) p)) Q st:=by rw[eZ,show lK aY (ip k) aa (.BoolOp .Or (e::e2::r) p)=gU (ip k) aa .Or (e::e2::r)from rfl,abX];exact h
def aeh{e2:Expr}(h:wp ((ip k).ev aa e) (F0 Q (gU (ip k) aa .And (e2::r))) st):wp ((ip (k+1)).ev aa (.BoolOp .And (e::e2::r) p)) Q st:=by rw[eZ,show lK aY (ip k) aa (.BoolOp .And (e::e2::r) p)=gU (ip k) aa .And (e::e2::r)from rfl,bv_and];exact h
def aei{I:aT}{o:BoolOp}(h:wp (I.ev aa e) Q st):wp (gU I aa o [e]) Q st:=h
def aej{sc:cj}{aj:aw}{b:List Stmt}{Q:Fl×aw->ah->Prop}(h:wp (xs (ip k) ⟨sc,aj⟩ b) Q st):wp ((ip (k+1)).cZ ⟨sc,aj⟩ b) Q st:=by rw[sR];exact h
def aek(h:wp (bd (contains a v) adM) Q st):wp (cmp .In a v) Q st:=h
def ael(h:wp (bd (contains a v) adN) Q st):wp (cmp .NotIn a v) Q st:=h
def aem{b:Bool}{Q:Bool->ah->Prop}(h:Q b st):wp (truthy (.bool b)) Q st:=by rw[Bd];exact h
def aen{I:aT}{Q:List V->ah->Prop}(h:Q [] st):wp (dy I aa []) Q st:=by show wp (rt _) Q st;rw[bC];exact h
def aeo{I:aT}{Q:List V->ah->Prop}(h:wp (bd (I.ev aa e) (adE I aa r)) Q st):wp (dy I aa (e::r)) Q st:=h
def aep{n:Nat}{Q:Unit->ah->Prop}(ok:pd n 100=true)(h:Q () st):wp (fits n) Q st:=by rw[p6 (bx (pC ok) (by decide))];exact h
def k_rt{a:α}{Q:α->ah->Prop}(h:Q a st):wp (rt a) Q st:=by rw[bC];exact h
def aeq{Q:Bool->ah->Prop}(h:wp (bd ((ip k).b7 aa x) λt=>rt !t) Q st):wp ((ip (k+1)).b7 aa (.UnaryOp .Not x p)) Q st:=by rw[p7];exact h
def aer{o:CmpOp}{l r:Expr}{Q:Bool->ah->Prop}(h:wp (bd ((ip k).ev aa l) (adG (ip k) aa o r)) Q st):wp ((ip (k+1)).b7 aa (.Compare l [o] [r] p)) Q st:=by rw[p7];exact h
def aes{f:Expr}{ks:List Keyword}{Q:Bool->ah->Prop}(h:wp (bd ((ip k).ev aa (.Call f as ks p)) truthy) Q st):wp ((ip (k+1)).b7 aa (.Call f as ks p)) Q st:=by rw[p7];exact h
def aet{o:BoolOp}{Q:Bool->ah->Prop}(h:wp (gq (ip k) aa o es) Q st):wp ((ip (k+1)).b7 aa (.BoolOp o es p)) Q st:=by rw[p7];exact h
abbrev Nz(Q:Bool->ah->Prop)(m:M Bool)(t:Bool)(s:ah):Prop:=if t=true then wp m Q s else Q false s
def aeu{Q:Bool->ah->Prop}{m:M Bool}{t:Bool}(h:if t=true then wp m Q st else Q false st):Nz Q m t st:=h
abbrev NA(Q:Bool->ah->Prop)(m:M Bool)(t:Bool)(s:ah):Prop:=if t=true then Q true s else wp m Q s
def aev{Q:Bool->ah->Prop}{m:M Bool}{t:Bool}(h:if t=true then Q true st else wp m Q st):NA Q m t st:=h
def aew{I:aT}{Q:Bool->ah->Prop}(h:wp (I.b7 aa e) (Nz Q (gq I aa .And r)) st):wp (gq I aa .And (e::r)) Q st:=by rw[abv];exact h
def aex{I:aT}{Q:Bool->ah->Prop}(h:wp (I.b7 aa e) (NA Q (gq I aa .Or r)) st):wp (gq I aa .Or (e::r)) Q st:=by rw[abx];exact h
def aey{I:aT}{Q:Bool->ah->Prop}(h:Q true st):wp (gq I aa .And []) Q st:=by rw[MH];exact h
def aez{I:aT}{Q:Bool->ah->Prop}(h:Q false st):wp (gq I aa .Or []) Q st:=by rw[MH];exact h
def aeA{I:aT}{Q:Bool->ah->Prop}(h:Q true st):wp (tests I aa []) Q st:=by rw[abB];exact h
def aeB{I:aT}{Q:Bool->ah->Prop}(h:wp (I.b7 aa e) Q st):wp (tests I aa [e]) Q st:=by rw[abC];exact h
def aeC{dP:Decidable P}{a:Prop}(h:if P then a else b):if decide P=true then a else b:=by
 by_cases h':P
 .rw[if_pos h']at h;rw[if_pos (decide_eq_true h')];exact h
 .rw[if_neg h']at h;rw[if_neg (by simpa using h')];exact h
def aeD{d:Decidable True}{a:Prop}(h:a): @ite _ True d a b:=by rw[if_pos trivial];exact h
def aeE{d:Decidable (¬True)}{a:Prop}(h:b): @ite _ (¬True) d a b:=by rw[if_neg (λq=>q trivial)];exact h
def aeF{x:Str}{d:Decidable (x=x)}{a:Prop}(h:a): @ite _ (x=x) d a b:=by rw[if_pos rfl];exact h
def aeG{x y:Str}{d:Decidable (x=y)}{a:Prop}(e:decide (x=y)=false)(h:b): @ite _ (x=y) d a b:=by rw[if_neg (of_decide_eq_false e)];exact h
def aeH{a:Prop}(h:a):if true=true then a else b:=h
def aeI{a:Prop}(h:b):if false=true then a else b:=h
def aeJ{d:Decidable P}{m1 m2:M α}{J Q:α->ah->Prop}(h1:P->wp m1 J st)(h2:¬P->wp m2 J st)(hj:∀a U,J a U->Q a U): @ite _ P d (wp m1 Q st) (wp m2 Q st):=by
 by_cases h:P
 .rw[if_pos h];exact wp_mono (h1 h) hj
 .rw[if_neg h];exact wp_mono (h2 h) hj
def F2(l:Nat){xs:List V}(hl:st.length=l)(hc:xs.length<=bH)(h:Q (.ab l) (st++[.list xs])):wp (cg xs) Q st:=by rw[EZ hc,hl];exact h
def aeK(l:Nat){o:O}(hl:st.length=l)(h:Q (.ab l) (st++[o])):wp (je o) Q st:=by rw[AS,hl];exact h
def xs_mark{I:aT}{b:List Stmt}{Q:Fl×aw->ah->Prop}(h:wp (xs I aa b) Q st):wp (xs I aa b) Q st:=h
def and_mark{a:Prop}(h:a/\b):a/\b:=h
def ex_mark{p:α->Prop}(h:∃x,p x):∃x,p x:=h
def aeL{I:aT}{Q:Option Int->ah->Prop}(h:Q none st):wp (lI I aa none) Q st:=by rw[abP];exact h
def ko_some{I:aT}{Q:Option Int->ah->Prop}(h:wp (bd (I.ev aa e) λv=>Bp v) Q st):wp (lI I aa (some e)) Q st:=by rw[oi_some];rw[aZ]at h;exact h
def NB{i:Int}{Q:Option Int->ah->Prop}(h:Q (some i) st):wp (Bp (.int i)) Q st:=by rw[abO];exact h
def aeM{I:aT}{Q:List (V×V)->ah->Prop}(h:Q [] st):wp (lH I aa [] []) Q st:=by rw[abL];exact h
def aeN{I:aT}{a v:Expr}{ks:List (Option Expr)}{vs:List Expr}{Q:List (V×V)->ah->Prop}(h:wp (bd (I.ev aa a) λkv=>bd (I.ev aa v) λvv=>bd (lH I aa ks vs) λr=>rt ((kv,vv)::r)) Q st):wp (lH I aa (some a::ks) (v::vs)) Q st:=h
def aeO{d:V}{Q:Unit->ah->Prop}(h:Q () st):wp (jf d []) Q st:=by rw[MO];exact h
def aeP{d b:V}{r:List (V×V)}{Q:Unit->ah->Prop}(h:wp (bd (eU d a b) λY=>jf d r) Q st):wp (jf d ((a,b)::r)) Q st:=h
section
variable{I:aT}{aj:aw}{Q:aw->ah->Prop}
def aeQ(h:wp (bd (I.ev ⟨sc,aj⟩ o) (attrS n v aj)) Q st):wp (ji aY I (d+1) ⟨sc,aj⟩ (.Attribute o n p) v) Q st:=h
def aeR{i:Expr}(h:wp (bd (I.ev ⟨sc,aj⟩ o) (adI I ⟨sc,aj⟩ i v aj)) Q st):wp (ji aY I (d+1) ⟨sc,aj⟩ (.Subscript o i p) v) Q st:=h
abbrev aeS(n:Nat)(xs:List V):Bool:=qJ xs.length n
def aeT{xs:List V}(hu:R0 (jJ v) st xs)(hl:aeS ts.length xs=true)(h:wp (jh (ji aY I d) ⟨sc,aj⟩ ts xs) Q st):wp (ji aY I (d+1) ⟨sc,aj⟩ (.Tuple ts j p) v) Q st:=by show wp (bd (jJ v) λxs=>if xs.length=ts.length then jh (ji aY I d) ⟨sc,aj⟩ ts xs else er) Q st;rw[aZ];refine d8 hu ?_;rw[if_pos (v9 hl)];exact h
def aeU(h:tc sc aj n v=some ax)(k:Q ax st):wp (ji aY I (d+1) ⟨sc,aj⟩ (.Name n p) v) Q st:=d8 (FV h) k
def aeV{xs:List V}(hu:R0 (jJ v) st xs)(h:rM sc aj ts xs=some ax)(k:Q ax st):wp (ji aY I (d+2) ⟨sc,aj⟩ (.Tuple ts j p) v) Q st:=d8 (Nk hu h) k
def aeW{f:aO->Expr->V->M aw}(h:Q aj st):wp (jh f ⟨sc,aj⟩ [] []) Q st:=by show wp (rt aj) Q st;rw[bC];exact h
def aeX{f:aO->Expr->V->M aw}{vs:List V}(h:wp (bd (f ⟨sc,aj⟩ t v) λax=>jh f ⟨sc,ax⟩ ts vs) Q st):wp (jh f ⟨sc,aj⟩ (t::ts) (v::vs)) Q st:=h
end
end
variable{i:V}
section
variable{st:ah}{I:aT}{aa:aO}
def aeY{Q:V->ah->Prop}(h:R0 (I.ev aa e) st a)(k:Q a st):wp (I.ev aa e) Q st:=d8 h k
def aeZ{a:Bool}{Q:Bool->ah->Prop}(h:R0 (I.b7 aa e) st a)(k:Q a st):wp (I.b7 aa e) Q st:=d8 h k
def ae0{Q:V->ah->Prop}(h:R0 (getAttr aY v n) st a)(k:Q a st):wp (getAttr aY v n) Q st:=d8 h k
def ae1{Q:V->ah->Prop}(h:R0 (getItem v i) st a)(k:Q a st):wp (getItem v i) Q st:=d8 h k
def ae2{o:CmpOp}{Q:V->ah->Prop}(h:R0 (cmp o v i) st a)(k:Q a st):wp (cmp o v i) Q st:=d8 h k
def ae3{o:Operator}{Q:V->ah->Prop}(h:R0 (binop o v i) st a)(k:Q a st):wp (binop o v i) Q st:=d8 h k
def ae4{a:List V}{Q:List V->ah->Prop}(h:R0 (jJ v) st a)(k:Q a st):wp (jJ v) Q st:=d8 h k
def ae5{a:Src}{Q:Src->ah->Prop}(h:R0 (srcOf v) st a)(k:Q a st):wp (srcOf v) Q st:=d8 h k
def ae6{a:MK}{Q:MK->ah->Prop}(h:R0 (fU v n) st a)(k:Q a st):wp (fU v n) Q st:=d8 h k
def ae7{a:Bool}{Q:Bool->ah->Prop}(h:R0 (contains v i) st a)(k:Q a st):wp (contains v i) Q st:=d8 h k
def ae8{f:V->M β}{Q:β->ah->Prop}(h:R0 (I.ev aa e) st a)(k:wp (f a) Q st):wp (bd (I.ev aa e) f) Q st:=k_bd (d8 h k)
def ae9{a:Bool}{f:Bool->M β}{Q:β->ah->Prop}(h:R0 (I.b7 aa e) st a)(k:wp (f a) Q st):wp (bd (I.b7 aa e) f) Q st:=k_bd (d8 h k)
def ae'{f:V->M β}{Q:β->ah->Prop}(h:R0 (getAttr aY v n) st a)(k:wp (f a) Q st):wp (bd (getAttr aY v n) f) Q st:=k_bd (d8 h k)
def afa{f:V->M β}{Q:β->ah->Prop}(h:R0 (getItem v i) st a)(k:wp (f a) Q st):wp (bd (getItem v i) f) Q st:=k_bd (d8 h k)
def afb{o:CmpOp}{f:V->M β}{Q:β->ah->Prop}(h:R0 (cmp o v i) st a)(k:wp (f a) Q st):wp (bd (cmp o v i) f) Q st:=k_bd (d8 h k)
def afc{a:Src}{f:Src->M β}{Q:β->ah->Prop}(h:R0 (srcOf v) st a)(k:wp (f a) Q st):wp (bd (srcOf v) f) Q st:=k_bd (d8 h k)
def afd{a:MK}{f:MK->M β}{Q:β->ah->Prop}(h:R0 (fU v n) st a)(k:wp (f a) Q st):wp (bd (fU v n) f) Q st:=k_bd (d8 h k)
def afe{a:Bool}{f:Bool->M β}{Q:β->ah->Prop}(h:R0 (contains v i) st a)(k:wp (f a) Q st):wp (bd (contains v i) f) Q st:=k_bd (d8 h k)
def aff{a:List V}{f:List V->M β}{Q:β->ah->Prop}(h:R0 (dy I aa es) st a)(k:wp (f a) Q st):wp (bd (dy I aa es) f) Q st:=k_bd (d8 h k)
def afg{b:Bool}{f:Bool->M β}{Q:β->ah->Prop}(k:wp (f b) Q st):wp (bd (truthy (.bool b)) f) Q st:=k_bd (by rw[Bd];exact k)
def afh{n:Nat}{f:Unit->M β}{Q:β->ah->Prop}(ok:pd n 100=true)(k:wp (f ()) Q st):wp (bd (fits n) f) Q st:=k_bd (by rw[p6 (bx (pC ok) (by decide))];exact k)
def afi{c:ck}{H:aB} [hR:Rep c H st] {r:Th}{Q:V->ah->Prop}(k:Q (on (H.k.tab r)) st):wp (eC I .dict (.ab (c.ab .table)) (sz "get") [jw r]) Q st:=by rw[abT];exact k
end
def afj{st:ah}{i:Int}{Q:Bool->ah->Prop}{l:List Int}:wp (nW (.int i) (l.map .int)) Q st=Q (decide (i∈l)) st:=by
 induction l generalizing Q with
 |nil=>show wp (rt false) Q st=_;rw[bC];rfl
 |cons a r ih=>
  show wp (bd (mH (.int a) (.int i)) λb=>bd (nW (.int i) (r.map .int)) λc=>rt (b||c)) Q st=_;rw[aZ,Bc (rI ..),aZ,ih,bC,<-afk];exact congrArg (λb=>Q b st) (decide_eq_decide.mpr ⟨λe=>e.elim (λe=>e▸dz) (dM _),λe=>(bU.mp e).imp CR id⟩)
def afl{st:ah}{i:Int}{k:Nat}{l:List Int}{Q:Bool->ah->Prop}(h:st[k]? =some (.list (l.map .int))):wp (contains (.int i) (.ab k)) Q st=Q (decide (i∈l)) st:=by show wp (bd (dQ k) _) Q st=_;rw[aZ,AR h];exact afj ..
def afm{st:ah}{i:Int}{k:Nat}{l:List Int}(h:st[k]? =some (.list (l.map .int))):R0 (contains (.int i) (.ab k)) st (decide (i∈l)):=.of ((afl h).mpr ⟨rfl,rfl⟩)
def afn{st:ah}{xs:List V}(h:st[l]? =some (.list xs)):R0 (jJ (.ab l)) st xs:=.of ((abW h).mpr ⟨rfl,rfl⟩)
section
variable{I:aT}{aj:aw}{st:ah}
abbrev NC(scope:cj)(aj:aw):Option aw:=Bx (qO scope++Ie scope aj)
@[reducible] abbrev afo(cl:V->M (List V))(src:Src):M V:=bd (fB src cl bp 0 []) cg
@[reducible] abbrev afp(cl:V->M (List V))(s:V):M V:=bd (srcOf s) (afo cl)
@[reducible] abbrev afq(cl:V->M (List V))(src:Src):M (List V):=fB src cl bp 0 []
@[reducible] abbrev itC(cl:V->M (List V))(s:V):M (List V):=bd (srcOf s) (afq cl)
@[reducible] abbrev afr(I:aT)(aa:aO)(e:Expr)(f:V->M (List V))(t:Bool):M (List V):=if t=true then bd (I.ev aa e) f else rt []
@[reducible] abbrev ND(I:aT)(sc:cj)(ifs:List Expr)(e:Expr)(f:aw->V->M (List V))(aj:aw):M (List V):=bd (tests I ⟨sc,aj⟩ ifs) (afr I ⟨sc,aj⟩ e (f aj))
@[reducible] abbrev afs(_:aw)(x:V):M (List V):=rt [x]
@[reducible] abbrev aft(I:aT)(sc:cj)(elt:Expr)(gs:List c9)(aj:aw):V->M (List V):=itC (clauses aY I elt gs ⟨sc,aj⟩)
def afu{rest:List c9}{Q:V->ah->Prop}(ok:(qP ⟨sc,aj⟩ scope && (g::rest).all (λg=>g.is_async==0))=true)(hv:NC scope aj=some ax)
 (h:wp (bd (I.ev ⟨sc,aj⟩ g.iter) (afp (clauses aY I elt (g::rest) ⟨scope,ax⟩))) Q st):wp (comp aY I ⟨sc,aj⟩ elt (g::rest) scope) Q st:=by
 unfold NC at hv;rw[FU]at hv;cases hv;simp only[aZ]at h;exact abA ok h
def afv{bP iter:Expr}{ifs:List Expr}{a:Int}{Q:List V->ah->Prop}(ok:(freshT aj bP && a==0)=true)
 (h:wp (bd (ef aY I ⟨sc,aj⟩ bP v) (ND I sc ifs elt afs)) Q st):
 wp (clauses aY I elt [⟨bP,iter,ifs,a⟩] ⟨sc,aj⟩ v) Q st:=by
 show wp (if(freshT aj bP && a==0)=true then _ else er) Q st;rw[if_pos ok];exact h
def afw{bP iter xO sX:Expr}{ifs xP:List Expr}{a a2:Int}{rest:List c9}{Q:List V->ah->Prop}(ok:(freshT aj bP && a==0)=true)
 (h:wp (bd (ef aY I ⟨sc,aj⟩ bP v) (ND I sc ifs sX (aft I sc elt (⟨xO,sX,xP,a2⟩::rest)))) Q st):
 wp (clauses aY I elt (⟨bP,iter,ifs,a⟩::⟨xO,sX,xP,a2⟩::rest) ⟨sc,aj⟩ v) Q st:=by
 show wp (if(freshT aj bP && a==0)=true then _ else er) Q st;rw[if_pos ok];exact h
end
section
variable{st:ah}
def afx [hR:Rep c H st] (h:eV (oH c.ab) n=none):R0 (fU (.ab (c.ab .inst)) n) st (.inst (sz "Congruence")):=by
 refine dq (a:=.inst (sz "Congruence") (oH c.ab)) ?_ ?_
 .show(match st[c.ab .inst]? with|some o=>some (o,st)|none=>none)=_;rw[hR.at' .inst];rfl
 .dsimp only;rw[h];rfl
def afy [hR:Rep c H st]:R0 (fU (.ab (c.ab .gg)) (sz "args")) st (.inst (sz "Bank")):=.of (aby.mpr ⟨rfl,rfl⟩)
def afz [hR:Rep c H st]:R0 (fU (.ab (c.ab .gg)) (sz "data")) st (.inst (sz "Bank")):=.of (abz.mpr ⟨rfl,rfl⟩)
abbrev NF(n:Str):Bool:=isName "append" n||isName "extend" n||isName "pop" n||isName "count" n
def afA{xs:List V}(h:st[l]? =some (.list xs))(hn:NF n=true):R0 (fU (.ab l) n) st .list:=by
 refine dq (a:=.list xs) ?_ ?_
 .show(match st[l]? with|some o=>some (o,st)|none=>none)=_;rw[h]
 .rw[if_pos (show(isName "append" n||isName "extend" n||isName "pop" n||isName "count" n)=true from hn)];rfl
def afB [hR:Rep c H st] {r:HR}{xs:List V}(h:obj c H r= .list xs)(hn:NF n=true):R0 (fU (.ab (c.ab r)) n) st .list:=afA (by rw[hR.at' r,h]) hn
def afC [hR:Rep c H st]:R0 (fU (.ab (c.ab .table)) (sz "get")) st .dict:=.of (abR.mpr ⟨rfl,rfl⟩)
end
end
variable{a b:Th}
section
variable{st:ah}
def eq_bool{a b:Bool}:bZ 6 st (.bool a) (.bool b)=some (decide (a=b)):=by cases a<;>cases b<;>rfl
def afD:bZ 6 st (tm a) (tm b)=some (decide (a=b)):=Me a b
def afE{a:Option Th}:bZ 6 st (on a) (tm t)=some (decide (a=some t)):=aaD a t
def eq_int{i j:Int}:bZ 6 st (.int i) (.int j)=some (decide (i=j)):=rI ..
def eq_str{i j:Str}:bZ 6 st (.str i) (.str j)=some (decide (i=j)):=Md ..
def afF:bZ 6 st (ix a) (ix b)=some (decide (a=b)):=FJ 6 a b
@[reducible]def NG(dot:Bool):List Char->String
 |[]=>""
 |k::ks=>(if k== '!' ||k== '~' then "" else if k== '_' then(if dot then " ; (tacticTry_ try { (dsimp dsimp (optConfig <null ) ) <null ) <null only ) <null ) <null ) ) } )" else "")else
  eS " ; <Lean.cdot <Lean.cdotTk · ) { # } )" [if k== 'r' then "(exact exact 'rfl )" else eS "^ \"#\" ) )" [k.toString]])++NG dot ks
@[reducible]def afG(row:String):String:=
 let l:=row.splitOn " "
 let f:=eS "(apply apply '# )" [l.headD ""]
 let ks:=if l.length<2 then[]else(l.getLastD "").toList
 (if ks.contains '~' then f else HN f)++NG (ks.contains '!') ks
@[reducible]def NH:List String->List String
 |[]=>[]
 |a::l=>afG a::NH l
@[reducible]def afH:String:="e@ab9 r|ab' r|FT r|aca r|acb ear|acd eegr|ace eec|acf eeb|acg e|ach e|ack lr@l@aci|acj el@t@acm t|M5 eec|acn eec|acp tt|acq tt|acr e@a@acs r|acu|acv@g@acw|acx|acy|acz|acA|acB|acC|M8 r|M8 ~r@q@afD|afE|acF|acG|afF|eq_int|eq_str|eq_bool|eq_int ~@c@acD q|acE q|acH|acI|acJ|acK|acL|M9|M'|Na|Nb|Nc|acM i|acN i|M' ~|Na ~|Nb ~|Nc ~|M9 ~@i@acO|acP|acQ|afm h@b@Nd|Nf|Nd ~|Nf ~@u@Ng|Ng ~|afn h@s@acT|acU|acV|acW|acX|acY|acR|acS@m@afx r|afy|afz|afB rr|afC@c0@k_K1 _|ae8 e_|ae9 t_|aff l_|ae' a_|afa g_|afd m_|afb c_|afc s_|afe i_|afg _|afh r_|k_bd _|aeY e_|adq _|ac2 _|ac6 _|ada _|adb _|acZ _|ac0 _|aej _|aeZ t_|aeC _|adZ _|adn _|aeu _|aev _|aee _|aef _|ad3 r_|ae6 m_|aen _|aeo _|aed _|ad4 r_|ad6 r_|ad8 r_|ad9 _|ad' r_|aec r_|adP r_|ae1 g_|adO r_|adT _|ae2 c_|aem _|adV _|aep r_|adU _|ae3 b_|aeU r_!|aeV ur_!|aeR _|aeQ _|adW _|ae5 s_|ad2 _|afu rr_!|afv r_|afw r_|aeA _|aeB _|aeH _|aeD _|aeE _|aeF _|aeG r_|aeI _|adQ _|aeL _|ko_some _|NB _|NB ~_|adR _|adS _|adX _|adY t_|ad0 _|ad1 r_|aeM _|aeN _|aeO _|aeP _|ad7 r_|aeb rr_|aeg _|aeh _|aei _|aeq _|aer _|aes _|aet _|aew _|aex _|aey _|aez _|ae0 a_|ae7 i_|aek _|ael _|ae4 u_|afi _|k_rt _|aeT ur_|aeW _|aeX _@s1@adi err_!|adj erur_!|adk r_|adm t_|Nl t_|ado _|adp e_|ads _|adv esr_|Nr esr_|adw r_|adu _|adl r_|adx _|adt _|ade _"
@[reducible]def afI:String:="h@(assumption assumption )@c1@(paren ` { (failIfSuccess fail_if_success { (withReducible with_reducible { (apply apply 'xs_mark ) } ) } ) ; (failIfSuccess fail_if_success { (withReducible with_reducible { (apply apply 'and_mark ) } ) } ) ; (failIfSuccess fail_if_success { (withReducible with_reducible { (apply apply 'ex_mark ) } ) } ) ; ^ \"c0\" ) ) } `) )@cg@(tacticRepeat_ repeat { ^ \"c1\" ) ) } )@go@(paren ` { (refine' refine' [app 's_call <null [syntheticHole ? $ ) [syntheticHole ? $. ) [syntheticHole ? _ ) ) ) ) ; (case case <null (caseArg <Lean.binderIdent $ ) <null ) ) ) => { (exact exact 'rfl ) } ) ; (case case <null (caseArg <Lean.binderIdent $. ) <null ) ) ) => { (exact exact 'rfl ) } ) ; (dsimp dsimp (optConfig <null ) ) <null ) <null only ) <null ) <null ) ) } `) )@st@(paren ` { ^ \"cg\" ) ) ; (tacticTry_ try { ^ \"s1\" ) ) } ) ; ^ \"cg\" ) ) } `) )@ss@(paren ` { ^ \"cg\" ) ) ; (tacticRepeat_ repeat { ^ \"s1\" ) ) ; ^ \"cg\" ) ) } ) } `) )"
@[reducible]def F3(k:String):List String->String
 |a::b::r=>if a==k then b else F3 k r
 |_=>""
open Lean in
@[reducible]def afJ(s:Syntax):MacroM Syntax:=do
 let s:=s[1].isStrLit?.getD ""
 let t:=F3 s (afI.splitOn "@")
 let r:=if t=="" then rY (NH ((F3 s (afH.splitOn "@")).splitOn "|"))else t
 pure (mC r [mkIdent (<-Macro.addMacroScope `k1),mkIdent (<-Macro.addMacroScope `k2)])
open Lean in
@[reducible]def aj1(k:String)(s:Syntax):MacroM Syntax:=if Cu s then pure (mC (eS "^ \"#\" ) )" [k]) [])else Macro.throwUnsupported
open Lean in
@[reducible]def afK:Syntax->MacroM Syntax:=HV "(tacticRepeat_ repeat { (first first <null <group | { (withReducible with_reducible { (refine refine [app 'k_K1 <null [syntheticHole ? _ ) ) ) ) } ) } ) <group | { (withReducible with_reducible { (refine refine [app 'k_bd <null [syntheticHole ? _ ) ) ) ) } ) } ) ) ) } ) ; " "(tacticTry_ try { (withReducible with_reducible { (refine refine [app 'k_rt <null [syntheticHole ? _ ) ) ) ) } ) } ) ; "
end
variable{P:Params}
section
@[reducible]abbrev Up:=Th->Option (Th×bR)
abbrev dj(up:Up):Prop:=∃d:Th->Nat,∀t e,up t=some e->d e.1<d t
abbrev cnt(p:Th->Bool):Nat:=(things.filter p).length
def filter_le{p q:α->Bool}(h:∀x,p x=true->q x=true)(l:List α):(l.filter p).length<=(l.filter q).length:=by
 induction l with
 |nil=>exact bG _
 |cons a r ih=>
  have:=ih;rw[u3,u3];by_cases hp:p a=true
  .rw[if_pos hp,if_pos (h a hp)];exact aG az aK [.l af ak] rfl this
  .rw[if_neg hp];split
   ·(exact aG af aK [.l af ak] rfl this)
   .exact this
def filter_lt{p q:α->Bool}(h:∀x,p x=true->q x=true){a:α}(h1:p a=false)(h2:q a=true):∀l:List α,a∈l->(l.filter p).length<(l.filter q).length:=by
 intro l hm;induction l with
 |nil=>cases hm
 |cons b r ih=>
  rw[u3,u3];rcases bU.mp hm with rfl|hm
  .rw[if_neg (by rw[h1];simp),if_pos h2]
   exact aG az aK [.l af ak] rfl (filter_le h r)
  .have:=ih hm;by_cases hp:p b=true
   .rw[if_pos hp,if_pos (h b hp)];exact aG (.add az aX) aK [.l az ak] rfl this
   .rw[if_neg hp];split
    ·(exact aG az aK [.l az ak] rfl this)
    .exact this
variable{up:Up}
def dj.rank(h:dj up):∃d:Th->Nat,(∀t,d t<=7)/\∀t e,up t=some e->d e.1<d t:=by
 obtain⟨d,hd⟩:=h;refine⟨λt=>cnt λs=>decide (d s<d t),λt=>jU ..,λt e he=> ?_⟩;have:=hd t e he;exact filter_lt (a:=e.1) (λx hx=>by simp only[decide_eq_true_eq]at hx⊢;(exact bq bD ak [.l az ak,.l bD af] rfl this hx)) (by simp) (decide_eq_true this) things (oJ e.1)
abbrev vo(up:Up):Nat->Th->List (Th×(Th×bR))
 |0,_=>[]
 |n+1,t=>match up t with
  |none=>[]
  |some e=>(t,e)::vo up n e.1
def afL{d:Th->Nat}(hd:∀t e,up t=some e->d e.1<d t):∀(n m:Nat) (t:Th),d t<n->d t<m->vo up n t=vo up m t:=by
 intro n;induction n with
 |zero=>exact λY Y h Y=>absurd h (wA _)
 |succ n ih=>
  intro m t h1 h2;cases m with
  |zero=>exact absurd h2 (wA _)
  |succ m=>
  show(match up t with|none=>[]|some e=>(t,e)::vo up n e.1)=match up t with|none=>[]|some e=>(t,e)::vo up m e.1
  cases e:up t with
  |none=>rfl
  |some p=>have:=hd t p e;simp only;rw[ih m p.1 (bq bD ak [.l az aK,.l bD af] rfl h1 this) (bq bD ak [.l az aK,.l bD af] rfl h2 this)]
abbrev cE(up:Up)(t:Th):List (Th×(Th×bR)):=vo up 8 t
def NI(h:dj up)(t:Th):cE up t=match up t with|none=>[]|some e=>(t,e)::cE up e.1:=by
 obtain⟨d,h7,hd⟩:=h.rank;exact(afL hd 8 9 t (by have:=h7 t;(exact a9 az kH [.l af dm] rfl this)) (by have:=h7 t;(exact a9 az ig [.l af dm] rfl this)))
def nE(h:dj up)(e:up t=none):cE up t=[]:=by rw[NI h,e]
def ech_some(h:dj up){e:Th×bR}(he:up t=some e):cE up t=(t,e)::cE up e.1:=by rw[NI h,he]
def dj.ind(h:dj up){P:Th->Prop}(h0:∀t,up t=none->P t)(h1:∀t e,up t=some e->P e.1->P t)(t:Th):P t:=by
 obtain⟨d,hd⟩:=h;generalize hn:d t=n;induction n using aau generalizing t with
 |ind n ih=>
  cases e:up t with
  |none=>exact h0 t e
  |some p=>exact h1 t p e (ih (d p.1) (by have:=hd t p e;(exact bq bD ak [.e af ak,.l bD af] rfl hn this)) p.1 rfl)
abbrev bA(up:Up)(t:Th):List Th:=t::(cE up t).map (·.2.1)
def rN(h:dj up)(e:up t=none):bA up t=[t]:=by rw[bA,nE h e];rfl
def nod_some(h:dj up){e:Th×bR}(he:up t=some e):bA up t=t::bA up e.1:=by rw[bA,ech_some h he];rfl
abbrev pk(up:Up)(t:Th):Th:=(bA up t).getLast (by simp[bA])
def mj(h:dj up)(e:up t=none):pk up t=t:=by simp only[pk,rN h e,List.getLast_singleton]
def pk_some(h:dj up){e:Th×bR}(he:up t=some e):pk up t=pk up e.1:=by unfold pk;simp only[nod_some h he];rw[afM (by simp[bA])]
def afN(h:dj up)(t:Th):up (pk up t)=none:=by refine h.ind (P:=λt=>up (pk up t)=none) (λt e=>by rw[mj h e];exact e) (λt e he ih=>by rw[pk_some h he];exact ih) t
def afO(h:dj up){d:Th->Nat}(hd:∀t e,up t=some e->d e.1<d t)(t:Th):∀x∈bA up t,d x<=d t:=by
 refine h.ind (P:=λt=>∀x∈bA up t,d x<=d t) (λt e x hx=> ?_) (λt e he ih x hx=> ?_) t
 .rw[rN h e,bV]at hx;rw[hx];exact bG _
 .rw[nod_some h he,bU]at hx;rcases hx with rfl|hx
  .exact bG _
  .have:=ih x hx;have:=hd t e he;exact bq af av [.l af ak,.l aK av] rfl (by assumption) this
def tf(h:dj up)(t:Th):(bA up t).Nodup:=by
 obtain⟨d,hd⟩:=id h;refine h.ind (P:=λt=>(bA up t).Nodup) (λt e=> ?_) (λt e he ih=> ?_) t
 .rw[rN h e];simp
 .rw[nod_some h he,d0];refine⟨λhm=> ?_,ih⟩;have:=afO h hd e.1 t hm
  exact ln2 [.l af ak,.l aK af] rfl (by assumption) (hd t e he)
def qg(h:dj up)(t:Th):(bA up t).length<=7:=oK (tf h t)
def tg(t:Th):pk up t∈bA up t:=afP _
def xV(h:dj up)(t:Th):∀p∈cE up t,up p.1=some p.2:=by
 refine h.ind (P:=λt=>∀p∈cE up t,up p.1=some p.2) (λt e p hp=> ?_) (λt e he ih p hp=> ?_) t
 .rw[nE h e]at hp;cases hp
 .rw[ech_some h he,bU]at hp;rcases hp with rfl|hp
  .exact he
  .exact ih p hp
def vp(h:dj up)(t:Th):(cE up t).map (·.1)++[pk up t]=bA up t:=by
 refine h.ind (P:=λt=>(cE up t).map (·.1)++[pk up t]=bA up t) (λt e=> ?_) (λt e he ih=> ?_) t
 .rw[nE h e,rN h e,mj h e];rfl
 .rw[ech_some h he,nod_some h he,pk_some h he,eP,u4,ih]
def afQ(h:dj up)(t:Th):((cE up t).map (·.1)).Nodup:=by have:=tf h t;rw[<-vp h t]at this;exact(j5.mp this).1
abbrev jx(up:Up)(l:List (Th×(Th×bR))):Up:=l.foldl (λu p=>upd u p.1 none) up
abbrev qh(up:Up)(l:List (Th×(Th×bR))):Up:=l.foldl (λu p=>upd u p.2.1 (some (p.1,p.2.2))) up
abbrev cw(up:Up)(t:Th):Up:=qh (jx up (cE up t)) (cE up t)
abbrev fq(up:Up)(a b:Th):List Th:=
 let line:=bA up a
 let back:=(bA up b).takeWhile λx=> !line.contains x
 let here:=((bA up b).find? λx=>line.contains x).getD a
 line.takeWhile (λx=> !decide (x=here))++back
def NJ(h:dj up)(t:Th):∀x∈bA up t,x≠pk up t->(up x).isSome:=by
 intro x hx ba;rw[<-vp h t,dA,bV]at hx;rcases hx with hx|hx
 .obtain⟨p,hp,rfl⟩:=d4.mp hx;rw[xV h t p hp];rfl
 .exact absurd hx ba
def F4 [DecidableEq α] {t:α}:∀{l:List α},t∈l->∃a b,l=a++t::b/\t∉a:=by
 intro l h;induction l with
 |nil=>cases h
 |cons x r ih=>
  by_cases e:x=t
  .exact⟨[],r,by rw[e];rfl,lR⟩
  .obtain⟨a,b,h1,h2⟩:=ih ((bU.mp h).resolve_left (b0 e));exact⟨x::a,b,by rw[h1];rfl,λh=>(bU.mp h).elim (b0 e) h2⟩
def afR{p:α->Bool}:∀{l:List α},(∃x∈l,p x=true)->∃a x b,l=a++x::b/\p x=true/\(∀y∈a,p y=false)/\l.find? p=some x/\l.takeWhile (λy=> !p y)=a:=by
 intro l h;induction l with
 |nil=>obtain⟨x,h,_⟩:=h;cases h
 |cons y r ih=>
  by_cases e:p y=true
  .exact⟨[],y,r,rfl,e,λY h=>(lR h).elim,by rw[wj,e],by rw[F5,e];rfl⟩
  .have e':p y=false:=Jk.mpr e;obtain⟨z,hz,hp⟩:=h;rcases bU.mp hz with rfl|hz
   .exact absurd hp e
   obtain⟨a,x,b,h1,h2,h3,h4,h5⟩:=ih ⟨z,hz,hp⟩;exact⟨y::a,x,b,by rw[h1];rfl,h2,F6.mpr ⟨e',h3⟩,by rw[wj,e',h4],by rw[F5,e',h5];rfl⟩
def Bz(h:dj up)(hp:pk up a=pk up b):∃x p1 q1 p2 q2,bA up a=p1++x::q1/\bA up b=p2++x::q2/\fq up a b=p1++p2/\x∉p1/\∀y∈p2,y∉bA up a:=by
 obtain⟨p2,x,q2,h1,h2,h3,h4,h5⟩:=afR (p:=λx=>(bA up a).contains x) (l:=bA up b) ⟨pk up b,tg b,by rw[<-hp];simpa using tg a⟩;obtain⟨p1,q1,h6,h7⟩:=F4 (by simpa using h2);refine⟨x,p1,q1,p2,q2,h6,h1, ?_,h7,λy hy=>by simpa using h3 y hy⟩;unfold fq;simp only;rw[h4,h5];rw[h6,afS (by
  intro y hy;have:y≠x:=by rintro rfl;exact h7 hy
  simp[this])]
 simp
def F7(h:dj up)(hp:pk up a=pk up b):∀x∈fq up a b,(up x).isSome:=by
 obtain⟨x,p1,q1,p2,q2,h1,h2,h3,h4,h5⟩:=Bz h hp;intro y hy;rw[h3,dA]at hy;rcases hy with hy|hy
 .refine NJ h a y (by rw[h1];simp[hy]) λe=> ?_;have hn:=tf h a;have hl:pk up a∈x::q1:=by
   unfold pk;simp only[h1];rw(occs:=.all) [afT (by simp) (by simp)];exact afP _
  rw[h1]at hn;exact(j5.mp hn).2.2 y hy _ hl e
 .exact NJ h b y (by rw[h2];simp[hy]) λe=>(h5 y hy (by rw[e,<-hp];exact tg a))
structure Ex where
 work:List (Th×Th)
 seen:List Th
 found:List Nat
abbrev arg(t:Th):Th:=if t=3 then 0 else 1
abbrev lj(l:List Nat)(m:Nat):List Nat:=if m∈l then l else l++[m]
abbrev fc(up:Up)(x:Ex)(child:Th):Ex:=if child∈x.seen then x else match up child with
 |none=>x
 |some (p,none)=>⟨x.work++[(arg child,arg p)],x.seen++[child],x.found⟩
 |some (_,some m)=>⟨x.work,x.seen++[child],lj x.found m⟩
abbrev gi(up:Up):Nat->Ex->Option (List Nat)
 |0,_=>none
 |n+1,x=>match x.work.getLast? with
  |none=>some x.found
  |some (a,b)=>gi up n ((fq up a b).foldl (fc up) {x with work:=x.work.dropLast})
end
variable{s:Sep}{ae:Th→Th}
local macro_rules (kind:=PyProof.Rows.tacticWalk_at_)|s=>afJ s
local macro_rules (kind:=Lean.Parser.Tactic.rwSeq)|s=>afK s
local macro_rules (kind:=Lean.Elab.Tactic.Ext.ext)|s=>aj1 "cg" s
local macro_rules (kind:=Lean.Parser.Tactic.done)|s=>aj1 "st" s
section
section
variable{st:ah}
def afU [hR:Rep c H st] (k:Q (.bool (decide (H.k.ae a=H.k.ae b))) st):wp ((ip (n+8)).call (sz "Congruence",sz "are_equal") [.ab (c.ab .inst),tm a,tm b]) Q st:=by walk_at "go";done;exact k
abbrev parted(ae:Th->Th)(one other:Th):List Sep->Option Sep
 |[]=>none
 |s::r=>if ae s.1=one/\ae s.2.1=other then some s else if ae s.1=other/\ae s.2.1=one then some (s.2.1,s.1,s.2.2)else parted ae one other r
def F8{one other:Th}{r:List Sep}:parted ae one other (s::r)=if ae s.1=one/\ae s.2.1=other then some s else if ae s.1=other/\ae s.2.1=one then some (s.2.1,s.1,s.2.2)else parted ae one other r:=rfl
def NK [hR:Rep c H st] (hlen:(H.k.aD a).length<1000)(k:Q (Bq (parted H.k.ae a b (H.k.aD a))) st):wp ((ip (n+12)).call (sz "Congruence",sz "parted_by") [.ab (c.ab .inst),tm a,tm b]) Q st:=by
 walk_at "go";done;refine MX (ys:=H.k.aD a) (f:=gY) (hR.at' (.aD a)) (λi (_:GV)=>parted H.k.ae a b (H.k.aD a)=parted H.k.ae a b ((H.k.aD a).drop i)) (λG=>[(sz "self",some (.ab (c.ab .inst))),(sz "one",some (tm a)),(sz "other",some (tm b)),(sz "left",G.v),(sz "right",G.w),(sz "reason",G.x)]) (g:=⟨_,_,_,none⟩) rfl
  (by unfold bp;(exact a9 az eT [.l az dI] rfl hlen)) ?_ ?_
 .intro i s G P hs hp re ret;obtain⟨hi,hs⟩:=b9.mp hs;rw[uM hi,hs,F8]at hp;done;by_cases h1:H.k.ae s.1=a/\H.k.ae s.2.1=b
  .rw[if_pos h1]at hp⊢;done;rw[hp]at k;exact ret _ _ k
  .rw[if_neg h1]at hp⊢;done;done;by_cases h2:H.k.ae s.1=b/\H.k.ae s.2.1=a
   .rw[if_pos h2]at hp⊢;done;rw[hp]at k;exact ret _ _ k
   .rw[if_neg h2]at hp⊢;done;exact re ⟨_,_,_,none⟩ hp
 .intro G hp;rw[afV]at hp;rw[hp]at k;ext;done;exact k
abbrev rO(k:Core)(a b:Th):Option Sep:=if k.ae a=k.ae b then none else match k.val (k.ae a),k.val (k.ae b)with
 |some v,some w=>some (v,w,0)
 |_,_=>parted k.ae (k.ae a) (k.ae b) (k.aD (k.ae a))
def afW [hR:Rep c H st] (hlen:∀t,(H.k.aD t).length<1000)(k:Q (Bq (rO H.k a b)) st):wp ((ip (n+20)).call (sz "Congruence",sz "cause_apart") [.ab (c.ab .inst),tm a,tm b]) Q st:=by
 walk_at "go";done;done;by_cases h:H.k.ae a=H.k.ae b
 .rw[if_pos h];rw[rO,if_pos h]at k;done;exact k
 .rw[if_neg h];rw[rO,if_neg h]at k;done;done;cases hv:H.k.val (H.k.ae a)with
  |none=>rw[hv]at k;rw[if_neg (λh=>h.1 rfl)];done;done;exact NK (hlen _) k
  |some v=>
   rw[hv]at k;cases hw:H.k.val (H.k.ae b)with
   |none=>rw[hw]at k;rw[if_neg (λh=>h.2 rfl)];done;done;exact NK (hlen _) k
   |some w=>rw[hw]at k;rw[if_pos (by simp)];done;rw[hv,hw];exact k
def afX [hR:Rep c H st] (ht:t=3\/t=4)(k:Q (.int 0) st):wp ((ip (n+8)).call (sz "Bank",sz "data") [.ab (c.ab .gg),tm t]) Q st:=by
 walk_at "go";done;have hb:=hR.base;rcases ht with rfl|rfl
 .exact F9 (qf (hR.at' .gK) hb.d6 rfl) k
 .exact F9 (qf (hR.at' .gK) hb.d7 rfl) k
def Ga [hR:Rep c H st] (ht:t=3\/t=4)(k:Q (.tup [tm (arg t)]) st):wp ((ip (n+8)).call (sz "Bank",sz "args") [.ab (c.ab .gg),tm t]) Q st:=by
 walk_at "go";done;have hb:=hR.base;rcases ht with rfl|rfl
 .exact F9 (qf (hR.at' .gJ) hb.a6 rfl) k
 .exact F9 (qf (hR.at' .gJ) hb.a7 rfl) k
def NL [hR:Rep c H st] (ht:t=3\/t=4)(k:∀U,Pre st U->Q (jw (H.k.ae (arg t))) U):wp ((ip (n+20)).call (sz "Congruence",sz "signature") [.ab (c.ab .inst),tm t]) Q st:=by walk_at "go";done;refine afX ht ?_;ext;refine Ga ht ?_;ext;refine abG ?_;ext;refine⟨show 1<=bH by decide, ?_⟩;refine fm (c:=c) (a8 (by simp)) λl au cL hP hO hl hg=> ?_;ext;rw[abE hg,abH (a8 (by simp))];exact k _ hP
end
end
variable{p:V×V}{l:Th}
section
abbrev jy(l:List Th):List (V×V):=l.zipIdx.map λp=>(tm p.1,nat p.2)
def Gb(l:List Th):(jy l).all (λp=>p.1.isInt)=true:=fE.mpr λp hp=>(d4.mp hp).elim λq h=>h.2▸rfl
def afY(l:List Th):(jy l).length=l.length:=by simp[jy]
def NM(l:List Th)(t:Th):jy (l++[t])=jy l++[(tm t,nat l.length)]:=by simp[jy,afZ]
variable{r:List (V×V)}{k:V}
def BA(h:V.beq p.1 k=true):bL (p::r) k=some p.2:=if_pos h
def xW(h:¬V.beq p.1 k=true):bL (p::r) k=bL r k:=if_neg h
def af0{l:List (V×V)}:bL l k=none->bL (l++r) k=bL r k:=by
 induction l with
 |nil=>exact λY=>rfl
 |cons p l ih=>
  intro h;by_cases e:V.beq p.1 k=true
  .exact noSN ((BA e).symm.trans h)
  .exact(xW e).trans (ih ((xW e).symm.trans h))
def af1{l:List (V×V)}:bL l k=some v->bL (l++r) k=some v:=by
 induction l with
 |nil=>exact λh=>noNS h
 |cons p l ih=>
  intro h;by_cases e:V.beq p.1 k=true
  .exact(BA e).trans ((BA e).symm.trans h)
  .exact(xW e).trans (ih ((xW e).symm.trans h))
def Gd:∀{l:List Th},t∉l->bL (jy l) (tm t)=none:=by
 intro l h;have:∀(l:List Th) (i:Nat),t∉l->bL ((l.zipIdx i).map λp=>(tm p.1,nat p.2)) (tm t)=none:=by
  intro l;induction l with
  |nil=>intro i _;rfl
  |cons a r ih=>intro i h;rw[bU,not_or]at h;exact(xW λq=>h.1 (of_decide_eq_true ((lb a t).symm.trans q)).symm).trans (ih (i+1) h.2)
 exact this l 0 h
def idxK_some{pre post:List Th}(h:t∉pre):bL (jy (pre++t::post)) (tm t)=some (nat pre.length):=by rw[show pre++t::post=(pre++[t])++post by simp,jy,afZ,cD];refine af1 ?_;rw[show eJ (λp:Th×Nat=>(tm p.1,nat p.2)) (List.zipIdx (pre++[t]))=jy (pre++[t])from rfl,NM,af0 (Gd h)];exact BA ((lb t t).trans (decide_eq_true rfl))
def af2(l:List Th):(bL (jy l) (tm t)).isSome=decide (t∈l):=by
 by_cases h:t∈l
 .obtain⟨a,b,rfl,hn⟩:=F4 h;rw[idxK_some hn];simp
 .rw[Gd h];simp[h]
section
variable{st:ah}
abbrev af3(st:ah)(H:aB)(a:Th)(ll sl:Nat)(m:Nat)(pre:List Th)(here:Th)(ep:Option Nat)(U:ah):Prop:=m=(bA H.k.up here).length/\bA H.k.up a=pre++bA H.k.up here/\Pre st U/\U[ll]? =some (.list ((pre++[here]).map tm))/\U[sl]? =some (.dict (jy (pre++[here])) ep)
abbrev af4(st:ah)(H:aB)(a b:Th)(ll sl:Nat)(ep:Option Nat)(bl:Nat)(m:Nat)(th:List Th)(h2:Th)(U:ah):Prop:=
 m=(bA H.k.up h2).length/\(bA H.k.up b).takeWhile (λx=> !(bA H.k.up a).contains x)=th++(bA H.k.up h2).takeWhile (λx=> !(bA H.k.up a).contains x)/\(bA H.k.up b).find? (λx=>(bA H.k.up a).contains x)=(bA H.k.up h2).find? (λx=>(bA H.k.up a).contains x)/\th.length+(bA H.k.up h2).length=(bA H.k.up b).length/\pk H.k.up h2=pk H.k.up a/\Pre st U/\U[ll]? =some (.list ((bA H.k.up a).map tm))/\U[sl]? =some (.dict (jy (bA H.k.up a)) ep)/\U[bl]? =some (.list (th.map tm))
structure GN where
 pre:List Th
 here:Th
 ep:Option Nat
def af5 [hR:Rep c H st] (hA:dj H.k.up)(hp:pk H.k.up a=pk H.k.up b)(k:∀l U,Pre st U->st.length<=l->U[l]? =some (.list ((fq H.k.up a b).map tm))->Q (.ab l) U):
 wp ((ip (n+20)).call (sz "Congruence",sz "edges_between") [.ab (c.ab .inst),tm a,tm b]) Q st:=by
 walk_at "go";done;refine cG (a8 (by simp)) λll au P1 e1 L1 g1=> ?_;ext;refine Bo λsl aH P2 e2 L2 g2=> ?_;ext;rw[aa1 g2 rfl];done;have G1:(gj aH sl (O.dict [(tm a,V.int 0)] (some 1)))[sl]? =some (.dict (jy [a]) (some 1)):=get_set g2;have G2:(gj aH sl (O.dict [(tm a,V.int 0)] (some 1)))[ll]? =some (.list ([a].map tm)):=by rw[cv (by exact cO [.q af aK,.q av af,.q ak av] rfl L1 e2)];exact P2 _ _ g1
 have PP:Pre st (gj aH sl (O.dict [(tm a,V.int 0)] (some 1))):=(P1.trans P2).set (by exact dC ak bo [.q af ak,.q av az,.q bo av] rfl e1 L1 e2) _;have NN:ll≠sl:=by exact cO [.q af aK,.q av af,.q ak av] rfl L1 e2
 have dp:st.length<=ll:=by exact aG ak af [.q af ak] rfl e1
 have eg:st.length<=sl:=by exact dC ak bo [.q af ak,.q av az,.q bo av] rfl e1 L1 e2
 generalize gj aH sl (O.dict [(tm a,V.int 0)] (some 1))=aQ at G1 G2 PP⊢;refine s9 (λm (G:GN) U=>af3 st H a ll sl m G.pre G.here G.ep U) (λG=>[(sz "self",some (.ab (c.ab .inst))),(sz "a",some (tm a)),(sz "b",some (tm b)),(sz "line",some (.ab ll)),(sz "spots",some (.ab sl)),(sz "here",some (tm G.here)),(sz "back",none)])
  (g:=⟨[],a,some 1⟩) ⟨rfl,rfl,PP,G2,G1⟩ (by have:=qg hA a;unfold bp;(exact a9 az eT [.l af dm] rfl this)) ?_
 clear G1 G2 PP aQ g1 g2 P1 P2 e1 e2 L1 L2 au aH;intro m G aQ P;refine GN.rec (λpre here ep=> ?_) G;intro bz re ret;dsimp only at bz;obtain⟨hm,xX,P3,g1,g2⟩:=bz;have cU:Rep c H aQ:=hR.pre P3;have gW:=tf hA a;ext;cases hu:H.k.up here with
 |some e=>
  dsimp only[NO,if_true];rw[xX,nod_some hA hu]at gW;have Ge:e.1∉pre++[here]:=λhm=>by have h2:=(j5.mp (show((pre++[here])++bA H.k.up e.1).Nodup by simpa using gW)).2.2 e.1 hm e.1 (by simp[bA]);exact h2 rfl
  have hlen:(pre++[here]).length<=7:=by have:=oK gW;simp only[bM,mO,wO]at this⊢;exact aG (.add af (.add iN aX)) dm [.l (.add af aK) dm] rfl this
  done;rw[Bh hu];ext;done;rw[eK g1];ext;rw[qc g2 (FG (Gb _)) (Gd Ge) (a8 (by rw[afY];(exact a9 az cc [.l af dm] rfl hlen)))];done;have g3:(gj aQ sl (O.dict (jy (pre++[here])++[(tm e.1,V.int ((pre++[here]).map tm).length)]) (wH (λx=>x+1) ep)))[ll]? =some (.list ((pre++[here]).map tm)):=by rw[cv NN];exact g1
  rw[qa g3 rfl];ext;refine vh g3 (v7 (hR.lt .inst) dp) (a8 (by rw[aP];(exact a9 az cc [.l af dm] rfl hlen))) ?_;done;refine re (bA H.k.up e.1).length ⟨pre++[here],e.1,ep.map (·+1)⟩ _ (by rw[hm,nod_some hA hu];exact oB _) ⟨rfl,by rw[xX,nod_some hA hu];exact Gf ..,(P3.set eg _).set dp _, ?_, ?_⟩
  .rw[get_set g3];simp
  .rw[cv NN.symm,get_set g2,NM (pre++[here]),aP];rfl
 |none=>
  refine vd pQ ?_;rw[rN hA hu]at xX;rw[<-xX]at g1 g2;clear hm re ret;ext;done;refine cG (a8 (by simp)) λbl b6 P4 e4 L4 g4=> ?_;ext;done;have tj:aQ.length=bl:=e4.symm;have tn:=(b9.mp g1).1;have xY:=(b9.mp g2).1;have af6:∃x,(bA H.k.up b).find? (λx=>(bA H.k.up a).contains x)=some x:=by refine mV.mp (List.find?_isSome.mpr ⟨pk H.k.up b,tg b, ?_⟩);rw[<-hp];simpa using tg a
  obtain⟨x,hx⟩:=af6;refine s9 (λm (G:GN) U=>af4 st H a b ll sl ep bl m G.pre G.here U) (λG=>[(sz "self",some (.ab (c.ab .inst))),(sz "a",some (tm a)),(sz "b",some (tm b)),(sz "line",some (.ab ll)),(sz "spots",some (.ab sl)),(sz "here",some (tm G.here)),(sz "back",some (.ab bl))])
   (g:=⟨[],b,none⟩) ⟨rfl,rfl,rfl,nP _,hp.symm,P3.trans P4,P4 _ _ g1,P4 _ _ g2,g4⟩ (by have:=qg hA b;unfold bp;(exact a9 az eT [.l af dm] rfl this)) ?_
  clear g4 P4 L4 g1 g2 e4 b6 cU P3 xX hu gW;intro m G b6 P;refine GN.rec (λth h2 Y=> ?_) G;intro bz re ret;dsimp only at bz;obtain⟨hm,tp,gI,hlen,tq,P4,g1,g2,g3⟩:=bz;have ft:Rep c H b6:=hR.pre P4;ext;rw[u9 g2 (sS h2) (Gb _),af2];ext;have NP:=qg hA b;by_cases iE:h2∈bA H.k.up a
  .refine vd (by rw[decide_eq_true iE];exact pQ) ?_;obtain⟨pre,post,iH,NQ⟩:=F4 iE;ext;done;rw[ny g2 (FG (Gb _)) (by rw[iH,idxK_some NQ])];ext;rw[d5 g1,sZ (by rw[iH];simp)];ext;refine cG (a8 (by rw[m8,aP];exact bx (Gg _ _) (bx (qg hA a) (by decide)))) λl1 dE P5 e5 L5 g5=> ?_;ext;rw[sY g5 (P5 _ _ g3)];ext;have hh:bA H.k.up h2=h2::(cE H.k.up h2).map (·.2.1):=rfl;have hc:(bA H.k.up a).contains h2=true:=by simpa using iE
   rw(occs:=.all) [hh,F5,hc]at tp;rw(occs:=.all) [hh,wj,hc]at gI;have NR:fq H.k.up a b=pre++th:=by unfold fq;simp only;rw[gI,tp];simp only[Option.getD_some,W3,zG,if_false,gv];rw[iH,afS (by intro y hy;have:y≠h2:=(by rintro rfl;exact NQ hy);simp[this])];simp
   refine cG (a8 (by simp only[bM,m8,aP];exact bx (mD (bx (Gg _ _) (qg hA a)) (bx (Nat.le.intro hlen) NP)) (by decide))) λl2 dF P6 e6 L6 g6=> ?_;refine k l2 dF ((P4.trans P5).trans P6) (by have:=P4.len;have:=P5.len;(exact mE cX bo [.q af ak,.q av az,.q bo av,.l cX ak] rfl e5 L5 e6 (by assumption))) ?_;rw[g6,NR,iH];simp
  .refine FF (by rw[decide_eq_false iE];rfl) ?_;done;rw[qa g3 rfl];ext;refine vh g3 (by have:=hR.lt .inst;lia) (a8 (by rw[aP];(exact bq az cc [.e cI av,.l av dm] rfl hlen NP))) ?_;have gk:Rep c H (gj b6 bl (O.list (eJ tm th++[tm h2]))):=hR.pre (P4.set (by exact dC af bo [.l af ak,.e av bo,.l aK av] rfl dp tj tn) _);done;cases uG:H.k.up h2 with
   |none=>rw[mj hA uG]at tq;exact absurd (tq▸tg a) iE
   |some e=>
    rw[Bh uG];ext;done;rw[nod_some hA uG]at tp gI hlen hm;have hc:(bA H.k.up a).contains h2=false:=by simpa using iE
    rw[F5,hc]at tp;rw[wj,hc]at gI;refine re (bA H.k.up e.1).length ⟨th++[h2],e.1,none⟩ _ (by rw[hm];exact oB _) ⟨rfl,by rw[tp];exact Gf ..,gI,by simp only[bM,mO,wO]at hlen⊢;(exact dU (bq (.add (.add af (.add iN aX)) ak) av [.e (.add af aK) av] rfl hlen) (bq av (.add (.add af (.add iN aX)) ak) [.q (.add af aK) av] rfl hlen)),by rw[<-tq,pk_some hA uG],P4.set (by exact dC af bo [.l af ak,.e av bo,.l aK av] rfl dp tj tn) _, ?_, ?_, ?_⟩
    .rw[cv (by exact cO [.e af ak,.l bD af,.q av ak] rfl tj tn)];exact g1
    .rw[cv (by exact cO [.e af ak,.l bD af,.q av ak] rfl tj xY)];exact g2
    .rw[get_set g3];simp
end
end
variable{up:Up}
section
structure vq(k:Core):Prop where
 ac:dj k.up
 cls:∀a b,k.ae a=k.ae b->pk k.up a=pk k.up b
 args:∀t p,k.up t=some (p,none)->(t=3\/t=4)/\(p=3\/p=4)/\k.ae 0=k.ae 1
 bt:∀t p m,k.up t=some (p,some m)->m≠0
abbrev kB(l:List Th):List (V×V):=l.map λt=>(tm t,.bool true)
abbrev kN(l:List Nat):List (V×V):=l.map λ(m:Nat)=>(.int m,.bool true)
def NS(l:List Th):(kB l).all (λp=>p.1.isInt)=true:=fE.mpr λp hp=>(d4.mp hp).elim λq h=>h.2▸rfl
def NT(l:List Nat):(kN l).all (λp=>p.1.isInt)=true:=fE.mpr λp hp=>(d4.mp hp).elim λq h=>h.2▸rfl
def NU(l:List Th):(bL (kB l) (tm t)).isSome=decide (t∈l):=by
 induction l with
 |nil=>rfl
 |cons a r ih=>
  show(if V.beq (tm a) (tm t)=true then some (V.bool true)else bL (kB r) (tm t)).isSome=_;by_cases e:a=t
  .rw[if_pos ((lb a t).trans (decide_eq_true e)),e,decide_eq_true dz];rfl
  .rw[if_neg (λq=>e (of_decide_eq_true ((lb a t).symm.trans q))),ih];exact rJ ⟨dM _,λh=>(bU.mp h).resolve_left (b0 e)⟩
def af7{t:Th}{l:List Th}(h:t∉l):bL (kB l) (tm t)=none:=by have:=NU (t:=t) l;rw[decide_eq_false h]at this;simpa using this
def af8{m:Nat}(l:List Nat):ec (kN l) (.int m) (.bool true)=kN (lj l m):=by
 induction l with
 |nil=>rfl
 |cons a r ih=>
  show(if decide ((a:Int)=(m:Int))=true then(V.int a,V.bool true)::kN r else(V.int a,V.bool true)::ec (kN r) (.int m) (.bool true))=_;unfold lj;by_cases e:a=m
  .rw[if_pos (decide_eq_true (congrArg Nat.cast e)),if_pos (e▸dz)];rfl
  .rw[if_neg (λq:decide ((a:Int)=(m:Int))=true=>e (rb (of_decide_eq_true q))),ih];unfold lj;by_cases h:m∈r
   .rw[if_pos h,if_pos (dM _ h)];rfl
   .rw[if_neg h,if_neg (λq=>(bU.mp q).elim (b0 e) h)];rfl
structure NV(x:Ex):Prop where
 nd:x.seen.Nodup
 fl:x.found.length<=x.seen.length
 wl:x.work.length<=x.seen.length+1
def NW(l:List Nat)(m:Nat):(lj l m).length<=l.length+1:=by unfold lj;split<;>simp
def af9(x:Int)(l:List Int):(insI x l).length=l.length+1:=by
 induction l with
 |nil=>rfl
 |cons y r ih=>
  show(if x<=y then x::y::r else y::insI x r).length=_;by_cases h:x<=y
  .rw[if_pos h];rfl
  .rw[if_neg h];exact congrArg n8 ih
def nF(l:List Int):(sortI l).length=l.length:=by
 induction l with
 |nil=>rfl
 |cons x r ih=>exact(af9 x (sortI r)).trans (congrArg n8 ih)
def af'(h:dj up){a b:Th}(hp:pk up a=pk up b):(fq up a b).length<=14:=by
 obtain⟨x,p1,q1,p2,q2,h1,h2,h3,h4,h5⟩:=Bz h hp;have:=qg h a;have:=qg h b;rw(occs:=.all) [h1]at*;rw(occs:=.all) [h2]at*;rw(occs:=.all) [h3];simp only[bM]at*
 exact dC kx (.num 14) [.l (.add af aK) dm,.l (.add av lF) dm] rfl (by assumption) this
section
variable{st:ah}
abbrev aga(H:aB)(st aQ:ah)(wl sl fl:Nat)(R:List Nat)(m:Nat)(x:Ex)(ep jz:Option Nat)(U:ah):Prop:=NV x/\(∀p∈x.work,H.k.ae p.1=H.k.ae p.2)/\gi H.k.up m x=some R/\Pre st U/\aQ.length<=U.length/\U[wl]? =some (.list (x.work.map s8))/\U[sl]? =some (.dict (kB x.seen) ep)/\U[fl]? =some (.dict (kN x.found) jz)
abbrev agb(H:aB)(st dE:ah)(wl sl fl:Nat)(R:List Nat)(el:Nat)(path:List Th)(m:Nat)(i:Nat)(x:Ex)(ep jz:Option Nat)(U:ah):Prop:=NV x/\(∀p∈x.work,H.k.ae p.1=H.k.ae p.2)/\gi H.k.up m ((path.drop i).foldl (fc H.k.up) x)=some R/\Pre st U/\dE.length<=U.length/\U[el]? =some (.list (path.map tm))/\U[wl]? =some (.list (x.work.map s8))/\U[sl]? =some (.dict (kB x.seen) ep)/\U[fl]? =some (.dict (kN x.found) jz)
structure GE where
 x:Ex
 ep:Option Nat
 jz:Option Nat
 v1:Option V
 v2:Option V
 v3:Option V
 v4:Option V
 v5:Option V
def agc{m:Nat}{x:Ex}{R:List Nat}(h:gi up m x=some R):∃m',m=m'+1/\(match x.work.getLast? with|none=>some x.found|some (a,b)=>gi up m' ((fq up a b).foldl (fc up) ⟨x.work.dropLast,x.seen,x.found⟩))=some R:=Nat.casesOn (motive:=λm=>gi up m x=some R->∃m',m=m'+1/\(match x.work.getLast? with|none=>some x.found|some (a,b)=>gi up m' ((fq up a b).foldl (fc up) ⟨x.work.dropLast,x.seen,x.found⟩))=some R) m (λh=>noNS h) (λm h=>⟨m,rfl,h⟩) h
def Gh [hR:Rep c H st] (hU:vq H.k){a b:Th}{f:Nat}{R:List Nat}(hr:H.k.ae a=H.k.ae b)(hx:gi H.k.up f ⟨[(a,b)],[],[]⟩=some R)(hf:f<bp)
 (k:∀l U,R.length<=7->Pre st U->st.length<=l->U[l]? =some (.list ((sortI (R.map j7)).map .int))->Q (.ab l) U):
 wp ((ip (n+40)).call (sz "Congruence",sz "explain") [.ab (c.ab .inst),tm a,tm b]) Q st:=by
 walk_at "go";done;rw[if_neg (by simpa using hr)];done;done;refine cG (a8 (by simp)) λwl au P1 e1 L1 g1=> ?_;ext;refine Bo λsl aH P2 e2 L2 g2=> ?_;ext;refine Bo λfl aQ P3 e3 L3 g3=> ?_;done;have G1:aQ[wl]? =some (.list ([(a,b)].map s8)):=P3 _ _ (P2 _ _ g1);have G2:aQ[sl]? =some (.dict (kB []) (some 0)):=P3 _ _ g2;have G3:aQ[fl]? =some (.dict (kN []) (some 0)):=g3;have PP:Pre st aQ:=(P1.trans P2).trans P3;have h1:st.length<=wl:=by exact aG ak af [.q af ak] rfl e1
 have h2:wl<sl:=by exact bq aK av [.q af aK,.q av af] rfl L1 e2
 have h3:sl<fl:=by exact bq aK av [.q af aK,.q av af] rfl L2 e3
 have h4:fl<aQ.length:=by exact aG aK af [.q af aK] rfl L3
 refine s9 (λm (G:GE) U=>aga H st aQ wl sl fl R m G.x G.ep G.jz U) (λG=>[(sz "self",some (.ab (c.ab .inst))),(sz "a",some (tm a)),(sz "b",some (tm b)),(sz "work",some (.ab wl)),(sz "seen",some (.ab sl)),(sz "found",some (.ab fl)),(sz "one",G.v1),(sz "other",G.v2),(sz "child",G.v3),(sz "after",G.v4),(sz "why",G.v5)])
  (g:=⟨⟨[(a,b)],[],[]⟩,some 0,some 0,none,none,none,none,none⟩) ⟨⟨by simp,by simp,by simp⟩,by simpa using hr,hx,PP,bG _,G1,G2,G3⟩ hf ?_
 clear G1 G2 G3 PP g1 g2 g3 P1 P2 P3 e1 e2 e3;intro m' G b6 P;refine GE.rec (λx ep jz v1 v2 v3 v4 v5=> ?_) G;intro bz re ret;dsimp only at bz;obtain⟨hB,hW,hL,P4,vr,g1,g2,g3⟩:=bz;have ft:Rep c H b6:=hR.pre P4;obtain⟨m,hm,hL⟩:=agc hL;ext;rw[eK g1];ext;cases hw:x.work.getLast? with
 |none=>
  rw[hw]at hL;rw[List.getLast?_eq_none_iff]at hw;have BB:x.found=R:=by simpa using hL
  rw[hw,if_neg (by simp)];done;rw[abF g3 (NT _)];ext;have mq:=hB.fl;have mr:=oK hB.nd;refine cG (a8 (by simp only[kN,aP];(exact aG af cc [.l af ak,.l ak dm] rfl mq mr))) λl1 dE P5 e5 L5 g5=> ?_;ext;have g6:dE[l1]? =some (.list (R.map λm=>.int (j7 m))):=by rw[g5,kN,pT,BB];rfl
  rw[Bn g6 (by rw[<-BB];(exact aG az (.num 64) [.l af ak,.l ak dm] rfl mq mr))];ext;refine cG (a8 ?_) λl2 dF P6 e6 L6 g7=> ?_;ext
  .rw[aP,nF,aP,<-BB];exact aG af cc [.l af ak,.l ak dm] rfl mq mr
  .exact k l2 dF (by rw[<-BB];(exact aG af dm [.l af ak,.l ak dm] rfl mq mr)) ((P4.trans P5).trans P6) (by have:=P4.len;have:=P5.len;(exact lg (.branch 4 (.branch 2 (.branch 1 (.leaf _) (.leaf _)) (.branch 3 (.leaf _) (.leaf _))) (.branch 6 (.branch 5 (.leaf _) (.leaf _)) (.branch 7 (.leaf _) (.branch 8 (.leaf _) (.leaf _))))) av (.var 8) [.q af aK,.l av bo,.l lF cX,.l (.add cX aX) ak,.l af lE,.q qF lE,.q qG (.add qF aX),.q (.var 8) qG] rfl L3 h1 h2 h3 vr e5 L5 e6)) g7
 |some p=>
  obtain⟨p1,p2⟩:=p;rw[hw]at hL;obtain⟨wk,vt⟩:=List.getLast?_eq_some_iff.mp hw;simp only at hL;rw[vt,Fw]at hL;rw[vt,if_pos (by rw[aP,bM,fK];exact Jz _)];have mq:=hB.fl;have oN:=hB.wl;have mr:=oK hB.nd;rw[vt]at g1 oN;rw[cD]at g1;simp only[bM,fK]at oN;done;rw[qa g1 rfl];ext;refine MN g1 (by have:=hR.lt .inst;lia) (a8 (by rw[aP];(exact aG ak cc [.l af dm,.l aK az] rfl mr oN))) ?_;ext;have Gi:H.k.ae p1=H.k.ae p2:=hW (p1,p2) (by rw[vt];simp);have gk:Rep c H (gj b6 wl (O.list (eJ s8 wk))):=hR.pre (P4.set (by exact aG af ak [.l af ak] rfl h1) _);done;refine af5 hU.ac (hU.cls _ _ Gi) λel dE P5 BC g5=> ?_;rw[lP]at BC;have Gj:Pre st dE:=(P4.set h1 _).trans P5;rw[src_list g5];ext;have qi:dE[wl]? =some (.list (wk.map s8)):=P5 _ _ (get_set g1);have lr:dE[sl]? =some (.dict (kB x.seen) ep):=P5 _ _ (by rw[cv (by exact ln2 [.l az ak,.e ak af] rfl h2)];exact g2);have oO:dE[fl]? =some (.dict (kN x.found) jz):=P5 _ _ (by rw[cv (by exact cO [.l az ak,.l aK av,.e av af] rfl h2 h3)];exact g3);have rD:=af' hU.ac (hU.cls _ _ Gi);have NX:=F7 hU.ac (hU.cls _ _ Gi);generalize NR:fq H.k.up p1 p2=path at g5 hL rD NX;have Gk:∀p∈wk,H.k.ae p.1=H.k.ae p.2:=λp hp=>hW p (by rw[vt];simp[hp]);refine nD (ys:=path) (f:=tm) (λi (G:GE) U=>agb H st dE wl sl fl R el path m i G.x G.ep G.jz U) (λG=>[(sz "self",some (.ab (c.ab .inst))),(sz "a",some (tm a)),(sz "b",some (tm b)),(sz "work",some (.ab wl)),(sz "seen",some (.ab sl)),(sz "found",some (.ab fl)),(sz "one",some (tm p1)),(sz "other",some (tm p2)),(sz "child",G.v3),(sz "after",G.v4),(sz "why",G.v5)])
   (g:=⟨⟨wk,x.seen,x.found⟩,ep,jz,none,none,v3,v4,v5⟩) ⟨⟨hB.nd,mq,by simp only;(exact aG af aK [.l az aK] rfl oN)⟩,Gk,hL,Gj,bG _,g5,qi,lr,oO⟩ (by unfold bp;(exact a9 az eT [.l af (.num 14)] rfl rD)) (λi G U h=>h.2.2.2.2.2.1) ?_ ?_
  .clear g1 g2 g3 qi lr oO g5 hB hL mq oN mr hW Gk P4 Gj hm re ret vt hw;intro i t G dF P ht;refine GE.rec (λx ep jz v1 v2 v3 v4 v5=> ?_) G;intro bz re _;dsimp only at bz;obtain⟨hB,hW,hL,P6,BD,g5,g1,g2,g3⟩:=bz;obtain⟨hi,ht⟩:=b9.mp ht;rw[uM hi,ht,NY]at hL;have iZ:Rep c H dF:=hR.pre P6;obtain⟨⟨p,w⟩,he⟩:=mV.mp (NX t (by rw[<-ht];exact C8 hi));have mq:=hB.fl;have oN:=hB.wl;have mr:=oK hB.nd;have h5:=P5.len;rw[lP]at h5;ext;done;rw[u9 g2 (sS t) (NS _),NU];ext;by_cases hs:t∈x.seen
   .rw[show fc H.k.up x t=x by unfold fc;rw[if_pos hs]]at hL;refine vd (by rw[decide_eq_true hs];exact pQ) ?_;done;done;exact re ⟨x,ep,jz,none,none,_,_,_⟩ dF ⟨hB,hW,hL,P6,BD,g5,g1,g2,g3⟩
   .refine FF (by rw[decide_eq_false hs];rfl) ?_;have gW:(x.seen++[t]).Nodup:=j5.mpr ⟨hB.nd,by simp,by rintro a ha b hb rfl;rw[bV]at hb;exact hs (hb▸ha)⟩;done;rw[qc g2 (FG (NS _)) (af7 hs) (a8 (by simp only[kB,aP];(exact a9 az cc [.l af dm] rfl mr)))];ext;have P7:Pre st (gj dF sl (O.dict (kB x.seen++[(tm t,V.bool true)]) (ep.map λx=>x+1))):=P6.set (by exact bq af av [.l af ak,.l aK av] rfl h1 h2) _;have mu:Rep c H (gj dF sl (O.dict (kB x.seen++[(tm t,V.bool true)]) (ep.map λx=>x+1))):=hR.pre P7;have G1:(gj dF sl (O.dict (kB x.seen++[(tm t,V.bool true)]) (ep.map λx=>x+1)))[wl]? =some (.list (x.work.map s8)):=by rw[cv (by exact ln2 [.l az ak,.q af ak] rfl h2)];exact g1
    have G2:(gj dF sl (O.dict (kB x.seen++[(tm t,V.bool true)]) (ep.map λx=>x+1)))[sl]? =some (.dict (kB (x.seen++[t])) (ep.map λx=>x+1)):=by rw[get_set g2];simp[kB]
    have G3:(gj dF sl (O.dict (kB x.seen++[(tm t,V.bool true)]) (ep.map λx=>x+1)))[fl]? =some (.dict (kN x.found) jz):=by rw[cv (by exact ln2 [.l az ak,.e ak af] rfl h3)];exact g3
    have G5:(gj dF sl (O.dict (kB x.seen++[(tm t,V.bool true)]) (ep.map λx=>x+1)))[el]? =some (.list (path.map tm)):=by rw[cv (by exact yS [.q af aK,.l bD ak,.l af bo,.l bo cX,.e cX av] rfl L3 h3 vr BC)];exact g5
    have BE:dE.length<=(gj dF sl (O.dict (kB x.seen++[(tm t,V.bool true)]) (ep.map λx=>x+1))).length:=by rw[lP];exact BD
    generalize gj dF sl (O.dict (kB x.seen++[(tm t,V.bool true)]) (ep.map λx=>x+1))=jA at P7 mu G1 G2 G3 G5 BE;ext;done;rw[Bh he];ext;done;cases w with
    |some mk=>
     have om:=hU.bt _ _ _ he;rw[show fc H.k.up x t=⟨x.work,x.seen++[t],lj x.found mk⟩ by unfold fc;rw[if_neg hs,he]]at hL;rw[if_neg (by simp)];rw[show wv (some mk)= .int mk from rfl];done;rw[if_pos (by simpa using om)];done;refine Bi G3 (abN (NT _)) (a8 (by simp only[kN,aP];(exact aG az cc [.l af ak,.l ak dm] rfl mq mr))) λep3=> ?_;rw[af8];ext;walk_at "ss";refine re ⟨⟨x.work,x.seen++[t],lj x.found mk⟩,ep.map λx=>x+1,ep3,none,none,_,_,_⟩ _ ⟨⟨gW, ?_, ?_⟩,hW,hL,P7.set (by exact dC af bo [.l af ak,.l aK av,.l bD bo] rfl h1 h2 h3) _,by rw[lP];exact BE, ?_, ?_, ?_, ?_⟩
     .have:=NW x.found mk;simp only[bM,fK];exact bq av aK [.l af ak,.l av az] rfl mq this
     .simp only[bM,fK];exact aG af (.add aK aX) [.l af aK] rfl oN
     .rw[cv (by exact o9 [.q af aK,.l af av,.l av bo,.e bo ak] rfl L3 vr BC)];exact G5
     .rw[cv (by exact cO [.l az ak,.l aK av,.q af av] rfl h2 h3)];exact G1
     .rw[cv (by exact ln2 [.l az ak,.q af ak] rfl h3)];exact G2
     .rw[get_set G3]
    |none=>
     obtain⟨jB,tv,ha3⟩:=hU.args _ _ he;rw[show fc H.k.up x t=⟨x.work++[(arg t,arg p)],x.seen++[t],x.found⟩ by unfold fc;rw[if_neg hs,he]]at hL;rw[if_pos rfl];done;rw[qa G1 rfl];ext;refine Ga jB ?_;ext;refine Ga tv ?_;ext;refine cG (xs:=[s8 (arg t,arg p)]) (a8 (by simp)) λzl i5 P8 e8 L8 g8=> ?_;ext;refine abK (P8 _ _ G1) g8 (by have:=hR.lt .inst;lia) (by have:=(b9.mp G1).1;(exact ln (.branch 4 (.branch 2 (.branch 1 (.leaf _) (.leaf _)) (.branch 3 (.leaf _) (.leaf _))) (.branch 6 (.branch 5 (.leaf _) (.leaf _)) (.branch 7 (.leaf _) (.leaf _)))) [.q af aK,.l bD bo,.l lF ak,.l af cX,.l cX lE,.l lE qF,.q qG qF,.e qG av] rfl L3 h2 h3 vr h5 BE e8)) (a8 (by simp only[aP,fK];(exact aG az cc [.l af aK,.l ak dm] rfl oN mr))) ?_;walk_at "ss";have h8:=P8.len;refine re ⟨⟨x.work++[(arg t,arg p)],x.seen++[t],x.found⟩,ep.map λx=>x+1,jz,none,none,_,_,_⟩ _ ⟨⟨gW, ?_, ?_⟩, ?_,hL,(P7.trans P8).set (by exact aG af ak [.l af ak] rfl h1) _,by rw[lP];(exact dC af bo [.l af ak,.q av ak,.q bo bD] rfl BE e8 L8), ?_, ?_, ?_, ?_⟩
     .simp only[bM,fK];exact aG af aK [.l af ak] rfl mq
     .simp only[bM,fK];exact aG az (.add aK aX) [.l af aK] rfl oN
     .intro q hq;rcases dA.mp hq with hq|hq
      .exact hW q hq
      .rw[bV]at hq;subst hq;rcases jB with rfl|rfl<;>rcases tv with rfl|rfl<;>simp[arg,ha3]
     .rw[cv (by exact Rq [.q af aK,.l bD bo,.l lF ak,.l af cX,.l cX lE,.e lE av] rfl L3 h2 h3 vr BC)];exact P8 _ _ G5
     .rw[get_set (P8 _ _ G1),cD];rfl
     .rw[cv (by exact ln2 [.l az ak,.e ak af] rfl h2)];exact P8 _ _ G2
     .rw[cv (by exact cO [.l az ak,.l aK av,.e av af] rfl h2 h3)];exact P8 _ _ G3
  .clear g1 g2 g3 qi lr oO g5 hB hL mq oN mr hW Gk P4 Gj;intro G dF;refine GE.rec (λx ep jz v1 v2 v3 v4 v5=> ?_) G;intro bz;dsimp only at bz;obtain⟨hB,hW,hL,P6,BD,g5,g1,g2,g3⟩:=bz;rw[afV]at hL;have h5:=P5.len;rw[lP]at h5;ext;done;exact re m ⟨x,ep,jz,_,_,_,_,_⟩ dF (hm▸oB m) ⟨hB,hW,hL,P6,by exact dC af bo [.l af ak,.l av bo,.l ak av] rfl vr BD h5,g1,g2,g3⟩
end
end
variable{f:Nat}
section
variable{l:List Int}
def NZ{st:ah}{Q:V->ah->Prop}(h:st[k]? =some (.list (l.map .int)))(h2:l.length<64):wp (fC .sorted [.ab k]) Q st=wp (cg ((sortI l).map .int)) Q st:=by rw[(Bn (f:=λi:Int=>i) (ys:=l) (Q:=Q) h h2),N1]
abbrev qj(l:List Int)(m:Nat):List Int:=if m=0\/(m:Int)∈l then l else sortI (l++[(m:Int)])
abbrev joinR(a b:List Int):List Int:=sortI (a++b.filter λx=> !decide (x∈a))
section
variable{st:ah}
def agd{r h:Nat}{m:Nat}(hl:l.length<=30)(hg:st[r]? =some (.list (l.map .int)))(k:∀r' U,Pre st U->U[r']? =some (.list ((qj l m).map .int))->Q (.ab r') U):
 wp ((ip (n+20)).call (sz "Congruence",sz "with_reason") [.ab h,.ab r,.int m]) Q st:=by
 walk_at "go";done;by_cases hc:(m:Int)=0\/(m:Int)∈l
 .rw[if_pos hc];done;refine k r st (.refl st) ?_;rw[hg,qj,if_pos (by rcases hc with h|h;exact .inl (by lia);exact .inr h)]
 .rw[if_neg hc];done;done;refine cG (a8 (by simp)) λl1 au P1 e1 L1 g1=> ?_;rw[sY (P1 _ _ hg) g1];rw[show eJ V.int l++[V.int (m:Int)]=(l++[(m:Int)]).map V.int by simp];refine cG (a8 (by rw[aP,bM,fK];(exact a9 az cc [.l af nR] rfl hl))) λl2 aH P2 e2 L2 g2=> ?_;ext;rw[NZ g2 (by rw[bM,fK];(exact a9 (.add az aX) (.num 64) [.l af nR] rfl hl))];ext;refine cG (a8 (by rw[aP,nF];rw[bM,fK];(exact a9 az cc [.l af nR] rfl hl))) λl3 aQ P3 e3 L3 g3=> ?_;ext;refine k l3 aQ ((P1.trans P2).trans P3) ?_;rw[g3,qj,if_neg (by rintro(h|h);exact hc (.inl (by lia));exact hc (.inr h))]
def age{r1 r2 h:Nat}{l1 l2:List Int}(dp:l1.length<=10)(eg:l2.length<=10)(hg1:st[r1]? =some (.list (l1.map .int)))(N2:st[r2]? =some (.list (l2.map .int)))(k:∀r' U,Pre st U->U[r']? =some (.list ((joinR l1 l2).map .int))->Q (.ab r') U):
 wp ((ip (n+20)).call (sz "Congruence",sz "joined") [.ab h,.ab r1,.ab r2]) Q st:=by
 walk_at "go";done;rw[src_list N2];ext;refine vk (λx=> !decide (x∈l1)) V.int N2 (by unfold bp;(exact a9 az eT [.l af eL] rfl eg)) ?_ ?_
 .intro x P hx re;ext;by_cases hm:x∈l1
  .rw[decide_eq_true hm]at re;rw[if_neg (λh=>h hm)];exact re
  .rw[decide_eq_false hm]at re;rw[if_pos hm];ext;exact re
 .have hf:=jU (λx=> !decide (x∈l1)) l2;refine cG (a8 (by rw[aP];(exact aG ak cc [.l af eL,.l ak af] rfl eg hf))) λa1 au P1 e1 L1 g1=> ?_;rw[sY (P1 _ _ hg1) g1];ext;rw[<-cD];refine cG (a8 (by rw[aP,bM];(exact bq kx cc [.l af eL,.l ak eL,.l av ak] rfl dp eg hf))) λa2 aH P2 e2 L2 g2=> ?_;ext;rw[NZ g2 (by rw[bM];(exact bq (.add kx aX) (.num 64) [.l af eL,.l ak eL,.l av ak] rfl dp eg hf))];ext;refine cG (a8 (by rw[aP,nF];rw[bM];(exact bq kx cc [.l af eL,.l ak eL,.l av ak] rfl dp eg hf))) λa3 aQ P3 e3 L3 g3=> ?_;ext;exact k a3 aQ ((P1.trans P2).trans P3) g3
def N3(a b:List Int):(joinR a b).length<=a.length+b.length:=by
 unfold joinR;rw[nF,bM]
 exact bq (.add av af) (.add av ak) [.l af ak] rfl (jU (λx=> !decide (x∈a)) b)
abbrev nG(R1 R2:List Nat)(m:Nat):List Int:=qj (joinR (sortI (R1.map j7)) (sortI (R2.map j7))) m
def agf [hR:Rep c H st] (hU:vq H.k){R1 R2:List Nat}(h1:H.k.ae a=H.k.ae s.1)(h2:H.k.ae b=H.k.ae s.2.1)(hf:f<bp)
 (vx:gi H.k.up f ⟨[(a,s.1)],[],[]⟩=some R1) (j8:gi H.k.up f ⟨[(b,s.2.1)],[],[]⟩=some R2) (k:∀r' U,Pre st U->U[r']? =some (.list ((nG R1 R2 s.2.2).map .int))->Q (.ab r') U):
 wp ((ip (n+60)).call (sz "Congruence",sz "explain_cause") [.ab (c.ab .inst),tm a,tm b,gY s]) Q st:=by
 walk_at "go";done;done;refine Gh hU h1 vx hf λl1 au b1 P1 e1 g1=> ?_;have cL:Rep c H au:=hR.pre P1;ext;refine Gh hU h2 j8 hf λl2 aH b2 P2 e2 g2=> ?_;ext;refine age (by rw[nF,aP];(exact a9 af eL [.l af dm] rfl b1)) (by rw[nF,aP];(exact a9 af eL [.l af dm] rfl b2)) (P2 _ _ g1) g2 λl3 aQ P3 g3=> ?_;ext;refine agd (by have:=N3 (sortI (R1.map j7)) (sortI (R2.map j7));simp only[nF,aP]at this;(exact bq av nR [.l af dm,.l ak dm,.l av cI] rfl b1 b2 this)) g3 λl4 b6 P4 g4=> ?_;exact k l4 b6 (((P1.trans P2).trans P3).trans P4) g4
abbrev vy(k:Core)(f:Nat)(t:aW):Option (List Int):=match k.aA t with
 |none=>none
 |some none=>(gi k.up f ⟨[aV t],[],[]⟩).map λR=>sortI (R.map j7)
 |some (some s)=>(gi k.up f ⟨[((aV t).1,s.1)],[],[]⟩).bind λR1=>(gi k.up f ⟨[((aV t).2,s.2.1)],[],[]⟩).map λR2=>nG R1 R2 s.2.2
def agg [hR:Rep c H st] (hU:vq H.k){t:aW}(hf:f<bp)(h:vy H.k f t=some l)
 (h1:H.k.aA t=some none->H.k.ae (aV t).1=H.k.ae (aV t).2) (h2:∀s,H.k.aA t=some (some s)->H.k.ae (aV t).1=H.k.ae s.1/\H.k.ae (aV t).2=H.k.ae s.2.1)
 (k:∀r' U,Pre st U->U[r']? =some (.list (l.map .int))->Q (.ab r') U):wp ((ip (n+80)).call (sz "Congruence",sz "explain_told") [.ab (c.ab .inst),bJ t]) Q st:=by
 walk_at "go";done;done;unfold vy at h;cases ht:H.k.aA t with
 |none=>rw[ht]at h;cases h
 |some v=>
  rw[Ml ht];ext;rw[ht]at h;cases v with
  |none=>
   rw[gV]at h;obtain⟨R,hx,rfl⟩:=h;done;rw[if_pos rfl];done;exact Gh hU (h1 ht) hx hf λl1 au b1 P1 e1 g1=>k l1 au P1 g1
  |some s=>
   rw[show gL (some s)= .tup [.int (-1),gY s]from rfl];ext;done;rw[if_neg (by decide)];done;done;obtain⟨R1,vx,h⟩:=fg.mp h;obtain⟨R2,j8,h⟩:=gV.mp h;subst h;exact agf hU (h2 s ht).1 (h2 s ht).2 hf vx j8 k
def agh [hR:Rep c H st] (k:Q .none st):wp ((ip (n+10)).call (sz "Congruence",sz "conflict") [.ab (c.ab .inst)]) Q st:=by walk_at "go";done;exact k
def agi [hR:Rep c H st] (k:Q (.tup [nat (H.k.mem t).length,nat (H.k.use t).length,nat (H.k.aD t).length,nat (H.k.aS t).length]) st):wp ((ip (n+20)).call (sz "Congruence",sz "lengths") [.ab (c.ab .inst),tm t]) Q st:=by walk_at "go";done;have h2:_=some (O.list _):=hR.at' (.use t);have h3:_=some (O.list _):=hR.at' (.aD t);have h4:_=some (O.list _):=hR.at' (.aS t);rw[eK (hR.at' (.mem t))];ext;rw[eK h2];ext;rw[eK h3];ext;rw[eK h4];ext;simp only[aP];exact k
def agj [hR:Rep c H st] (hlen:(H.k.aD t).length<1000)(hs:∀s∈H.k.aD t,H.k.ae s.1≠H.k.ae s.2.1)(k:Q .none st):wp ((ip (n+20)).call (sz "Congruence",sz "torn") [.ab (c.ab .inst),tm t]) Q st:=by
 walk_at "go";done;refine MX (ys:=H.k.aD t) (f:=gY) (hR.at' (.aD t)) (λi (_:GV)=>True) (λG=>[(sz "self",some (.ab (c.ab .inst))),(sz "small",some (tm t)),(sz "left",G.v),(sz "right",G.w),(sz "reason",G.x)]) (g:=⟨_,_,_,none⟩) trivial
  (by(exact a9 az eT [.l az dI] rfl hlen)) ?_ ?_
 .intro i s G P ff _ re ret;done;rw[if_neg (hs s (jL ff))];done;exact re ⟨_,_,_,none⟩ trivial
 .intro G _;done;exact k
end
end
section
abbrev lu(k:Core)(t:aW):Option Told:=if k.ae (aV t).1=k.ae (aV t).2 then some none else(rO k (aV t).1 (aV t).2).map some
abbrev bw(H:aB)(t:aW):aB:=if(H.k.aA t).isSome then H else match lu H.k t with
 |none=>H
 |some v=>{H with k:=⟨H.k.ae,H.k.mem,H.k.use,H.k.val,H.k.aD,H.k.aS,H.k.up,H.k.tab,upd H.k.aA t (some v)⟩,bk:=H.bk++[t],aU:=H.aU++[.aA t]}
structure qk(c c':ck):Prop where
 ab:c'.ab=c.ab
 up:c'.iF=c.iF
 tab:c'.iG=c.iG
def qk.refl(c:ck):qk c c:=⟨rfl,rfl,rfl⟩
def qk.trans{a b c:ck}(x:qk a b)(y:qk b c):qk a c:=⟨y.ab.trans x.ab,y.up.trans x.up,y.tab.trans x.tab⟩
section
variable{st:ah}
def Gl [hR:Rep c H st] {t:aW}(hlen:∀t,(H.k.aD t).length<1000)(hN:H.bk.length+1<=5000)(hT:H.b.cN.length+H.aU.length+1<=5000)
 (k:∀c' U,qk c c'->c'.jv=c.jv\/(bw H t).aU.length=H.aU.length+1->Rep c' (bw H t) U->Ev c st c' U->Q .none U):wp ((ip (n+40)).call (sz "Congruence",sz "tell") [.ab (c.ab .inst),bJ t]) Q st:=by
 walk_at "go";done;cases ht:H.k.aA t with
 |some v=>dsimp only[NO,if_true];done;exact k c st (.refl c) (.inl rfl) (by rw[show bw H t=H by unfold bw;rw[ht];rfl];exact hR) (.refl c st)
 |none=>
  dsimp only[Option.isSome_none,zG,if_false];done;done;done;refine afU ?_;ext;by_cases he:H.k.ae (aV t).1=H.k.ae (aV t).2
  .rw[if_pos he];have hF:bw H t={H with k:=⟨H.k.ae,H.k.mem,H.k.use,H.k.val,H.k.aD,H.k.aS,H.k.up,H.k.tab,upd H.k.aA t (some none)⟩,bk:=H.bk++[t],aU:=H.aU++[.aA t]}:=by unfold bw lu;rw[ht,if_pos he];rfl
   done;refine Mw (e:=none) λc1 au hl hu Gm cL cQ=> ?_;done;rw[<-cQ.inst];done;refine Mz (by exact a8 hN) λaH dr dB=> ?_;done;refine sW (e:=.aA t) rfl (by exact a8 hT) λaQ cU dG=> ?_;done;exact k c1 aQ ⟨hl,hu,Gm⟩ (.inr (by rw[hF];simp)) (rwE hF cU) ((cQ.trans dB).trans dG)
  .rw[if_neg he];done;refine afW hlen ?_;done;cases hc:rO H.k (aV t).1 (aV t).2 with
   |none=>
    have hF:bw H t=H:=by unfold bw lu;rw[ht,if_neg he,hc];rfl
    rw[if_pos rfl];done;exact k c st (.refl c) (.inl rfl) (rwE hF hR) (.refl c st)
   |some s=>
    have hF:bw H t={H with k:=⟨H.k.ae,H.k.mem,H.k.use,H.k.val,H.k.aD,H.k.aS,H.k.up,H.k.tab,upd H.k.aA t (some (some s))⟩,bk:=H.bk++[t],aU:=H.aU++[.aA t]}:=by unfold bw lu;rw[ht,if_neg he,hc];rfl
    rw[if_neg (by simp)];done;done;refine Mw (e:=some s) λc1 au hl hu Gm cL cQ=> ?_;done;rw[<-cQ.inst];done;refine Mz (by exact a8 hN) λaH dr dB=> ?_;done;refine sW (e:=.aA t) rfl (by exact a8 hT) λaQ cU dG=> ?_;done;exact k c1 aQ ⟨hl,hu,Gm⟩ (.inr (by rw[hF];simp)) (rwE hF cU) ((cQ.trans dB).trans dG)
def Gn(H:aB)(t:aW):(bw H t).b=H.b:=by
 unfold bw;split
 .rfl
 .split<;>rfl
def N4(H:aB)(t:aW):(bw H t).k.aD=H.k.aD:=by
 unfold bw;split
 .rfl
 .split<;>rfl
def agk(H:aB)(t:aW):(bw H t).k.aS=H.k.aS:=by
 unfold bw;split
 .rfl
 .split<;>rfl
def N5(H:aB)(t:aW):(bw H t).bk.length<=H.bk.length+1:=by
 unfold bw;split
 .simp
 .split<;>simp
def N6(H:aB)(t:aW):(bw H t).aU.length<=H.aU.length+1:=by
 unfold bw;split
 .simp
 .split<;>simp
abbrev tells(H:aB)(l:List aW):aB:=l.foldl bw H
def agl(H:aB)(l:List aW)(t:aW):tells H (l++[t])=bw (tells H l) t:=by unfold tells;rw[tw];rfl
def agm(l:List aW):∀H:aB,(tells H l).b=H.b:=by
 induction l with
 |nil=>intro H;rfl
 |cons t r ih=>intro H;exact(ih _).trans (Gn H t)
def agn(l:List aW):∀H:aB,(tells H l).k.aD=H.k.aD:=by
 induction l with
 |nil=>intro H;rfl
 |cons t r ih=>intro H;exact(ih _).trans (N4 H t)
def ago(l:List aW):∀H:aB,(tells H l).k.aS=H.k.aS:=by
 induction l with
 |nil=>intro H;rfl
 |cons t r ih=>intro H;exact(ih _).trans (agk H t)
def agp(l:List aW):∀H:aB,(tells H l).bk.length<=H.bk.length+l.length:=by
 induction l with
 |nil=>intro H;exact bG _
 |cons t r ih=>intro H;have:=ih (bw H t);have:=N5 H t;exact dC af (.add bo bD) [.l af ie,.l ak lF] rfl (by assumption) this
def agq(l:List aW):∀H:aB,(tells H l).aU.length<=H.aU.length+l.length:=by
 induction l with
 |nil=>intro H;exact bG _
 |cons t r ih=>intro H;have:=ih (bw H t);have:=N6 H t;exact dC af (.add bo bD) [.l af ie,.l ak lF] rfl (by assumption) this
def N7 [hR:Rep c H st] (hlen:∀t,(H.k.aD t).length<1000)(hW:(H.k.aS a).length<=1000)(hN:H.bk.length<=3000)(hT:H.b.cN.length+H.aU.length<=3000)
 (k:∀c' U,qk c c'->Rep c' (tells H (H.k.aS a)) U->Ev c st c' U->Q .none U):wp ((ip (n+50)).call (sz "Congruence",sz "tell_class") [.ab (c.ab .inst),tm a]) Q st:=by
 walk_at "go";done;refine nD (ys:=H.k.aS a) (f:=bJ) (λi (G:GC) U=>qk c G.c/\Rep G.c (tells H ((H.k.aS a).take i)) U/\Ev c st G.c U) (λG=>[(sz "self",some (.ab (c.ab .inst))),(sz "home",some (tm a)),(sz "t",G.v)])
  (g:=⟨c,none,none⟩) ⟨.refl c,hR,.refl c st⟩ (by unfold bp;(exact a9 az eT [.l af dI] rfl hW)) (λi G U h=> ?_) ?_ (GC.rec λc' v' Y U hI=> ?_)
 .have:=h.2.1.at' (.aS a);rw[h.1.ab]at this;exact this.trans (congrArg (λl=>some (O.list (eJ bJ l))) (congrFun (ago _ H) a))
 .intro i t G U P ht hI re _;obtain⟨hS,jC,hE⟩:=hI;have h1:=agp ((H.k.aS a).take i) H;have h2:=agq ((H.k.aS a).take i) H;have h3:((H.k.aS a).take i).length<=1000:=bx (vj _ _) hW;rw[<-hE.inst];done;refine Gl (by rw[agn];exact hlen) (by exact bq aK cc [.l af (.num 3000),.l ak kx,.l av dI] rfl hN h1 h3) (by rw[agm];(exact dC (.add kx aX) cc [.l cI (.num 3000),.l av (.add ak bo),.l bo dI] rfl hT h2 h3)) λc2 aH nf Y dr dB=> ?_;done;rw[hE.inst];exact re ⟨c2,some (bJ t),none⟩ aH ⟨hS.trans nf,by rw[take_snoc ht,agl];exact dr,hE.trans dB⟩
 .obtain⟨hS,jC,hE⟩:=hI;rw[jY]at jC;done;exact k c' U hS jC hE
end
end
section
abbrev gm(H:aB)(t:Th):aB:=if H.k.tab (H.k.ae (arg t))=some t then{H with k:=⟨H.k.ae,H.k.mem,H.k.use,H.k.val,H.k.aD,H.k.aS,H.k.up,upd H.k.tab (H.k.ae (arg t)) none,H.k.aA⟩,aU:=H.aU++[.tab (H.k.ae (arg t)) (some t)]}else H
abbrev eF(H:aB)(t:Th):aB:=match H.k.tab (H.k.ae (arg t))with
 |none=>{H with k:=⟨H.k.ae,H.k.mem,H.k.use,H.k.val,H.k.aD,H.k.aS,H.k.up,upd H.k.tab (H.k.ae (arg t)) (some t),H.k.aA⟩,aU:=H.aU++[.tab (H.k.ae (arg t)) none]}
 |some o=>if H.k.ae o=H.k.ae t then H else{H with aN:=H.aN++[(t,o,none)]}
abbrev dT(H:aB)(l r:Th)(w:bR):aB:={H with k:=⟨H.k.ae,H.k.mem,H.k.use,H.k.val,H.k.aD,H.k.aS,upd (cw H.k.up l) l (some (r,w)),H.k.tab,H.k.aA⟩,aU:=H.aU++[.di l (pk H.k.up l)]}
def agr(l:List (Th×(Th×bR))):∀(up:Up) (x:Th),x∉l.map (·.1)->jx up l x=up x:=by
 induction l with
 |nil=>intro up x _;rfl
 |cons p r ih=>intro up x h;rw[eP,bU,not_or]at h;show jx (upd up p.1 none) r x=up x;rw[ih _ _ h.2,bO h.1]
def ags(up:Up)(l:List (Th×(Th×bR)))(p:Th×(Th×bR)):jx up (l++[p])=upd (jx up l) p.1 none:=by unfold jx;rw[tw];rfl
def agt(up:Up)(l:List (Th×(Th×bR)))(p:Th×(Th×bR)):qh up (l++[p])=upd (qh up l) p.2.1 (some (p.1,p.2.2)):=by unfold qh;rw[tw];rfl
section
variable{st:ah}
def agu [hR:Rep c H st] (ht:t=3\/t=4)(hT:H.b.cN.length+H.aU.length+1<=5000)
 (k:∀c' U,c'.ab=c.ab->Rep c' (gm H t) U->Ev c st c' U->Q .none U):wp ((ip (n+40)).call (sz "Congruence",sz "take_off") [.ab (c.ab .inst),tm t]) Q st:=by
 walk_at "go";done;refine NL ht λau P1=> ?_;have cL:Rep c H au:=hR.pre P1;done;by_cases h:H.k.tab (H.k.ae (arg t))=some t
 .rw[if_pos h];have hF:gm H t={H with k:=⟨H.k.ae,H.k.mem,H.k.use,H.k.val,H.k.aD,H.k.aS,H.k.up,upd H.k.tab (H.k.ae (arg t)) none,H.k.aA⟩,aU:=H.aU++[.tab (H.k.ae (arg t)) (some t)]}:=by unfold gm;rw[if_pos h]
  done;refine sW (e:=.tab (H.k.ae (arg t)) (some t)) rfl (a8 hT) λaH dr dB=> ?_;done;refine My (e:=t) (by exact h) λc3 aQ hl cU dG=> ?_;walk_at "ss";exact k c3 aQ hl (rwE hF cU) (((Ev.nr P1).trans dB).trans dG)
 .rw[if_neg h];walk_at "ss";exact k c au rfl (by rw[show gm H t=H by unfold gm;rw[if_neg h]];exact cL) (.nr P1)
def agv [hR:Rep c H st] (ht:t=3\/t=4)(hT:H.b.cN.length+H.aU.length+1<=5000)(hQ:H.aN.length+1<=5000)
 (k:∀c' U,c'.ab=c.ab->Rep c' (eF H t) U->Ev c st c' U->Q .none U):wp ((ip (n+40)).call (sz "Congruence",sz "look_up") [.ab (c.ab .inst),tm t]) Q st:=by
 walk_at "go";done;refine NL ht λau P1=> ?_;have cL:Rep c H au:=hR.pre P1;done;done;cases h:H.k.tab (H.k.ae (arg t))with
 |none=>
  have hF:eF H t={H with k:=⟨H.k.ae,H.k.mem,H.k.use,H.k.val,H.k.aD,H.k.aS,H.k.up,upd H.k.tab (H.k.ae (arg t)) (some t),H.k.aA⟩,aU:=H.aU++[.tab (H.k.ae (arg t)) none]}:=by unfold eF;rw[h]
  rw[if_pos rfl];done;refine sW (e:=.tab (H.k.ae (arg t)) none) rfl (by exact a8 hT) λaH dr dB=> ?_;done;refine Mv λc3 aQ hl cU dG=> ?_;walk_at "ss";exact k c3 aQ hl (rwE hF cU) (((Ev.nr P1).trans dB).trans dG)
 |some o=>
  rw[if_neg (by simp)];rw[show on (some o)=tm o from rfl];done;by_cases ho:H.k.ae o=H.k.ae t
  .have hF:eF H t=H:=by unfold eF;rw[h];simp only;rw[if_pos ho]
   rw[if_neg (by simpa using ho)];walk_at "ss";exact k c au rfl (by rw[hF];exact cL) (.nr P1)
  .have hF:eF H t={H with aN:=H.aN++[(t,o,none)]}:=by unfold eF;rw[h];simp only;rw[if_neg ho]
   rw[if_pos ho];done;refine MA (e:=(t,o,none)) rfl (by exact a8 hQ) λaH dr dB=> ?_;walk_at "ss";exact k c aH rfl (by rw[hF];exact dr) ((Ev.nr P1).trans dB)
structure GK where
 dn:List (Th×(Th×bR))
 here:Th
 v:Option V
def N8 [hR:Rep c H st] (hA:dj H.k.up)(k:∀c' U,c'.ab=c.ab->Rep c' {H with k:=⟨H.k.ae,H.k.mem,H.k.use,H.k.val,H.k.aD,H.k.aS,cw H.k.up t,H.k.tab,H.k.aA⟩} U->Ev c st c' U->Q (tm (pk H.k.up t)) U):
 wp ((ip (n+30)).call (sz "Congruence",sz "turn") [.ab (c.ab .inst),tm t]) Q st:=by
 walk_at "go";done;refine fm (c:=c) (a8 (by simp)) λcl au cL P1 O1 e1 g1=> ?_;done;refine s9 (λm (G:GK) U=>m=(cE H.k.up G.here).length/\cE H.k.up t=G.dn++cE H.k.up G.here/\pk H.k.up G.here=pk H.k.up t/\Pre st U/\au.length<=U.length/\U[cl]? =some (.list (G.dn.map Br)))
  (λG=>[(sz "self",some (.ab (c.ab .inst))),(sz "t",some (tm t)),(sz "chain",some (.ab cl)),(sz "here",some (tm G.here)),(sz "edge",G.v),(sz "child",none)])
  (g:=⟨[],t,none⟩) ⟨rfl,rfl,rfl,P1,bG _,g1⟩ (by have:=qg hA t;unfold bA at this;simp only[mO,aP]at this;unfold bp;(exact a9 az eT [.l az dm] rfl this)) ?_
 intro m G aH P;refine GK.rec (λdn here v=> ?_) G;intro bz re ret;dsimp only at bz;obtain⟨hm,vz,tq,P2,AH,g1⟩:=bz;have dr:Rep c H aH:=hR.pre P2;have oP:=qg hA t;unfold bA at oP;rw[vz]at oP;simp only[mO,aP,bM]at oP;ext;cases hu:H.k.up here with
 |some e=>dsimp only[NO,if_true];rw[ech_some hA hu]at vz hm;done;rw[Bh hu];ext;done;rw[qa g1 rfl];ext;refine vh g1 (v7 (hR.lt .inst) e1) (a8 (by rw[aP];(exact aG az cc [.l (.add cI aX) dm] rfl oP))) ?_;done;done;exact re (cE H.k.up e.1).length ⟨dn++[(here,e)],e.1,some (rG e)⟩ _ (hm▸oB _) ⟨rfl,vz.trans (Gf ..),by rw[<-tq,pk_some hA hu],P2.set e1 _,by rw[lP];exact AH,by rw[get_set g1,cD];rfl⟩
 |none=>
  refine vd pQ ?_;rw[nE hA hu,gv]at vz;rw[<-vz]at g1;rw[mj hA hu]at tq;subst tq;rw[nE hA hu]at oP;rw[<-vz]at oP;have iA:Off c aH cl:=⟨(b9.mp g1).1,λr e=>by have:=hR.lt r;(exact cO [.l af ak,.q av ak,.l bD af] rfl e1 e this),λe=>by have:=hR.lt .inst;lia⟩;have gW:=afQ hA t;have hup:=xV hA t;ext;done;rw[src_list g1];ext;refine nD (ys:=cE H.k.up t) (f:=Br) (λi (G:GC) U=>G.c.ab=c.ab/\Rep G.c (H.u5 (jx H.k.up ((cE H.k.up t).take i))) U/\Ev c aH G.c U)
   (λG=>[(sz "self",some (.ab (c.ab .inst))),(sz "t",some (tm t)),(sz "chain",some (.ab cl)),(sz "here",some (tm (pk H.k.up t))),(sz "edge",G.v),(sz "child",G.w)])
   (g:=⟨c,_,_⟩) ⟨rfl,dr,.refl c aH⟩ (by simp only[wO]at oP;unfold bp;(exact a9 az eT [.l (.add (.add af iN) aX) dm] rfl oP)) (λi G U h=>(h.2.2.get cl iA).trans g1) ?_ (GC.rec λc3 v1 v2 aQ hI=> ?_)
  .intro i p G U P hp hI re _;obtain⟨hl,jC,hE⟩:=hI;rw[<-hE.inst];ext;done;have Dm:jx H.k.up ((cE H.k.up t).take i) p.1=some p.2:=by
    rw[agr,hup p (jL hp)];intro hm;obtain⟨hi,DX⟩:=b9.mp hp;have iH:(cE H.k.up t).map (·.1)=((cE H.k.up t).take i).map (·.1)++p.1::((cE H.k.up t).drop (i+1)).map (·.1):=by
     conv=>lhs;rw[<-BF i (cE H.k.up t),uM hi,DX]
     rw[cD,eP]
    rw[iH]at gW;exact(j5.mp gW).2.2 _ hm _ dz rfl
   refine Mx (e:=p.2) Dm λc2 aQ eg cU dG=> ?_;done;rw[hE.inst];exact re ⟨c2,some (rG p.2),some (tm p.1)⟩ aQ ⟨eg.trans hl,by rw[take_snoc hp,ags];exact cU,hE.trans dG⟩
  .obtain⟨xZ,cU,dG⟩:=hI;rw[jY]at cU;rw[<-dG.inst];have agw:=dG.off iA;have g3:aQ[cl]? =some (.list ((cE H.k.up t).map Br)):=(dG.get cl iA).trans g1;ext;done;rw[src_list g3];ext;refine nD (ys:=cE H.k.up t) (f:=Br) (λi (G:GC) U=>G.c.ab=c3.ab/\Rep G.c (H.u5 (qh (jx H.k.up (cE H.k.up t)) ((cE H.k.up t).take i))) U/\Ev c3 aQ G.c U)
    (λG=>[(sz "self",some (.ab (c3.ab .inst))),(sz "t",some (tm t)),(sz "chain",some (.ab cl)),(sz "here",some (tm (pk H.k.up t))),(sz "edge",G.v),(sz "child",G.w)])
    (g:=⟨c3,_,_⟩) ⟨rfl,cU,.refl c3 aQ⟩ (by simp only[wO]at oP;unfold bp;(exact a9 az eT [.l (.add (.add af iN) aX) dm] rfl oP)) (λi G U h=>(h.2.2.get cl agw).trans g3) ?_ (GC.rec λc4 v1 v2 b6 hI=> ?_)
   .intro i p G U P hp hI re _;obtain⟨hl,jC,hE⟩:=hI;rw[<-hE.inst];ext;done;refine Mu (e:=(p.1,p.2.2)) λc2 b6 eg ft fN=> ?_;done;rw[hE.inst];exact re ⟨c2,some (rG p.2),some (tm p.1)⟩ b6 ⟨eg.trans hl,by rw[take_snoc hp,agt];exact ft,hE.trans fN⟩
   .obtain⟨ya,ft,fN⟩:=hI;rw[jY]at ft;ext;done;exact k c4 b6 (ya.trans xZ) ft ((Ev.pre (.refl c st) P2).trans (dG.trans fN))
def agx [hR:Rep c H st] (hA:dj H.k.up)(hT:H.b.cN.length+H.aU.length+1<=5000)(k:∀c' U,c'.ab=c.ab->Rep c' (dT H l r w) U->Ev c st c' U->Q .none U):
 wp ((ip (n+40)).call (sz "Congruence",sz "hang") [.ab (c.ab .inst),tm l,tm r,wv w]) Q st:=by
 walk_at "go";done;refine N8 hA λc1 au dp cL cQ=> ?_;done;rw[<-cQ.inst];ext;refine Mu (e:=(r,w)) λc2 aH eg dr dB=> ?_;rw[<-dB.inst];done;refine sW (e:=.di l (pk H.k.up l)) rfl (by exact a8 hT) λaQ cU dG=> ?_;done;exact k c2 aQ (eg.trans dp) cU ((cQ.trans dB).trans dG)
end
end
section
abbrev iI(H:aB)(l:List Th):aB:=l.foldl gm H
abbrev i7(H:aB)(l:List Th):aB:=l.foldl eF H
abbrev qm(H:aB)(s g:Th):aB:={H with aU:=H.aU++[.join s g (H.k.mem g).length (H.k.use g).length (H.k.aD g).length (H.k.aS g).length (H.k.val g)]}
abbrev gO(ae:Th->Th)(g:Th)(l:List Th):Th->Th:=l.foldl (λf t=>upd f t g) ae
abbrev ib(H:aB)(s g:Th):aB:={H with k:=⟨gO H.k.ae g (H.k.mem s),H.k.mem,H.k.use,H.k.val,H.k.aD,H.k.aS,H.k.up,H.k.tab,H.k.aA⟩}
abbrev gP(H:aB)(s g:Th):aB:={H with k:=⟨H.k.ae,upd H.k.mem g (H.k.mem g++H.k.mem s),upd H.k.use g (H.k.use g++H.k.use s),H.k.val,upd H.k.aD g (H.k.aD g++H.k.aD s),upd H.k.aS g (H.k.aS g++H.k.aS s),H.k.up,H.k.tab,H.k.aA⟩}
abbrev fO(H:aB)(s g:Th):aB:=if(H.k.val g).isNone then{H with k:=⟨H.k.ae,H.k.mem,H.k.use,upd H.k.val g (H.k.val s),H.k.aD,H.k.aS,H.k.up,H.k.tab,H.k.aA⟩}else H
abbrev yb(H:aB)(s g:Th)(mv:List Th):aB:=i7 (fO (gP (ib (qm H s g) s g) s g) s g) mv
abbrev qn(H:aB)(l r:Th)(w:bR):aB:=
 let X:=yb (iI (dT H l r w) (H.k.use (H.k.ae l))) (H.k.ae l) (H.k.ae r) (H.k.use (H.k.ae l))
 tells X (X.k.aS (H.k.ae r))
abbrev iJ(H:aB)(l r:Th)(w:bR):aB:=if(H.k.mem (H.k.ae r)).length<(H.k.mem (H.k.ae l)).length then qn H r l w else qn H l r w
def agy(H:aB)(l:List Th)(t:Th):iI H (l++[t])=gm (iI H l) t:=by unfold iI;rw[tw];rfl
def agz(H:aB)(l:List Th)(t:Th):i7 H (l++[t])=eF (i7 H l) t:=by unfold i7;rw[tw];rfl
structure nH(H H':aB):Prop where
 b:H'.b=H.b
 ae:H'.k.ae=H.k.ae
 mem:H'.k.mem=H.k.mem
 use:H'.k.use=H.k.use
 val:H'.k.val=H.k.val
 aD:H'.k.aD=H.k.aD
 aS:H'.k.aS=H.k.aS
 up:H'.k.up=H.k.up
 aA:H'.k.aA=H.k.aA
 bk:H'.bk=H.bk
 bt:H'.bt=H.bt
def nH.refl(H:aB):nH H H:=⟨rfl,rfl,rfl,rfl,rfl,rfl,rfl,rfl,rfl,rfl,rfl⟩
def nH.trans{a b c:aB}(x:nH a b)(y:nH b c):nH a c:=⟨y.b.trans x.b,y.ae.trans x.ae,y.mem.trans x.mem,y.use.trans x.use,y.val.trans x.val,y.aD.trans x.aD,y.aS.trans x.aS,y.up.trans x.up,y.aA.trans x.aA,y.bk.trans x.bk,y.bt.trans x.bt⟩
def N9(H:aB)(t:Th):nH H (gm H t)/\(gm H t).aU.length<=H.aU.length+1/\(gm H t).aN=H.aN:=by
 unfold gm;split
 .exact⟨⟨rfl,rfl,rfl,rfl,rfl,rfl,rfl,rfl,rfl,rfl,rfl⟩,by simp,rfl⟩
 .exact⟨.refl H,by simp,rfl⟩
def Oa(H:aB)(t:Th):nH H (eF H t)/\(eF H t).aU.length<=H.aU.length+1/\(eF H t).aN.length<=H.aN.length+1:=by
 unfold eF;split
 .exact⟨⟨rfl,rfl,rfl,rfl,rfl,rfl,rfl,rfl,rfl,rfl,rfl⟩,by simp,by simp⟩
 .split
  .exact⟨.refl H,by simp,by simp⟩
  .exact⟨⟨rfl,rfl,rfl,rfl,rfl,rfl,rfl,rfl,rfl,rfl,rfl⟩,by simp,by simp⟩
def Gp(l:List Th):∀H:aB,nH H (iI H l)/\(iI H l).aU.length<=H.aU.length+l.length/\(iI H l).aN=H.aN:=by
 induction l with
 |nil=>intro H;exact⟨.refl H,bG _,rfl⟩
 |cons t r ih=>
  intro H;obtain⟨a,b,c⟩:=N9 H t;obtain⟨a',b',c'⟩:=ih (gm H t);exact⟨a.trans a',by(exact dC av (.add ak lF) [.l af aK,.l av (.add af bo)] rfl b b'),c'.trans c⟩
def Gq(l:List Th):∀H:aB,nH H (i7 H l)/\(i7 H l).aU.length<=H.aU.length+l.length/\(i7 H l).aN.length<=H.aN.length+l.length:=by
 induction l with
 |nil=>intro H;exact⟨.refl H,bG _,bG _⟩
 |cons t r ih=>
  intro H;obtain⟨a,b,c⟩:=Oa H t;obtain⟨a',b',c'⟩:=ih (eF H t);exact⟨a.trans a',by(exact dC av (.add ak lF) [.l af aK,.l av (.add af bo)] rfl b b'),by(exact dC av (.add ak lF) [.l af aK,.l av (.add af bo)] rfl c c')⟩
structure mw(H:aB)(l r:Th):Prop where
 ac:dj H.k.up
 ne:H.k.ae l≠H.k.ae r
 use:∀t∈H.k.use (H.k.ae l),t=3\/t=4
 val:H.k.val (H.k.ae l)=none\/H.k.val (H.k.ae r)=none
 agA:∀s∈H.k.aD (H.k.ae l),gO H.k.ae (H.k.ae r) (H.k.mem (H.k.ae l)) s.1≠gO H.k.ae (H.k.ae r) (H.k.mem (H.k.ae l)) s.2.1
 tx:∀t,(H.k.mem t).length<=100
 agB:∀t,(H.k.use t).length<=100
 agC:∀t,(H.k.aD t).length<=400
 agD:∀t,(H.k.aS t).length<=400
 tr:H.b.cN.length+H.aU.length<=2000
 ns:H.bk.length<=2000
 qu:H.aN.length<=2000
section
variable{st:ah}
def agE(n:Nat):∃ps s0 rest scope,ij (sz "Congruence",sz "join") aY.tab=some ⟨ps,s0::rest,scope⟩/\∀{st:ah} {c:ck} {H:aB} {Q:V->ah->Prop} {l r:Th} {w:bR} {R:Fl×aw->ah->Prop},Rep c H st->mw H l r->(∀c' U,c'.ab=c.ab->Rep c' (qn H l r w) U->Ev c st c' U->Q .none U)->(∀aj U,Q .none U->R (.next,aj) U)->wp (xs (ip (n+98)) ⟨scope,[(sz "self",some (.ab (c.ab .inst))),(sz "left",some (tm l)),(sz "right",some (tm r)),(sz "why",some (wv w)),(sz "small",none),(sz "large",none),(sz "moved",none),(sz "t",none),(sz "first",none),(sz "second",none),(sz "reasons",none)]⟩ rest) R st:=by
 refine⟨_,_,_,_,by rfl, ?_⟩;intro st c H Q l r w R hR hJ k kR;done;done;refine agx hJ.ac (by have:=hJ.tr;(exact aG (.add cI aX) cc [.l cI d9] rfl this)) λc1 au dp cL cQ=> ?_;rw[<-cQ.inst];done;have BG:=cL.at' (.use (H.k.ae l));rw[show obj c1 (dT H l r w) (.use (H.k.ae l))= .list ((H.k.use (H.k.ae l)).map tm)from rfl]at BG;rw[FA BG];have yc:H.k.ae l≠H.k.ae r:=hJ.ne;have Ob:qn H l r w=tells (yb (iI (dT H l r w) (H.k.use (H.k.ae l))) (H.k.ae l) (H.k.ae r) (H.k.use (H.k.ae l))) ((yb (iI (dT H l r w) (H.k.use (H.k.ae l))) (H.k.ae l) (H.k.ae r) (H.k.use (H.k.ae l))).k.aS (H.k.ae r)):=rfl;rw[Ob]at k;have hU:=hJ.use;have hV:=hJ.val;have my:=hJ.agA;have x1:(dT H l r w).k.ae=H.k.ae:=rfl;have x2:(dT H l r w).k.mem=H.k.mem:=rfl;have x3:(dT H l r w).k.use=H.k.use:=rfl;have x4:(dT H l r w).k.aD=H.k.aD:=rfl;have x5:(dT H l r w).k.aS=H.k.aS:=rfl;have x6:(dT H l r w).k.val=H.k.val:=rfl;have x7:(dT H l r w).b=H.b:=rfl;have x8:(dT H l r w).bk=H.bk:=rfl;have x9:(dT H l r w).aN=H.aN:=rfl;have lC:(dT H l r w).aU.length=H.aU.length+1:=by unfold dT;simp
 generalize dT H l r w=H1 at*;generalize H.k.ae l=s at*;generalize H.k.ae r=g at*;have y2:=hJ.tx;have y3:=hJ.agB;have y4:=hJ.agC;have y5:=hJ.agD;have y7:=hJ.tr;have y8:=hJ.ns;have y9:=hJ.qu;rw[<-x1,<-x2]at my;rw[<-x2]at y2;rw[<-x3]at y3 hU BG k⊢;rw[<-x4]at y4 my;rw[<-x5]at y5;rw[<-x6]at hV;rw[<-x7]at y7;rw[<-x8]at y8;rw[<-x9]at y9;have BH:H1.b.cN.length+H1.aU.length<=2001:=by exact bq (.add av af) (.num 2001) [.e af aK,.l (.add av ak) d9] rfl lC y7
 have E0:=cQ;clear cQ y7 x1 x2 x3 x4 x5 x6 x7 x8 x9 lC hJ Ob hR;clear BG;have i8:=y3 s;generalize Gr:H1.k.use s=mv at hU i8 k⊢;refine fm (c:=c1) (a8 (by rw[aP];(exact a9 af cc [.l af cK] rfl i8))) λml aH dr P2 O2 e2 g2=> ?_;ext;have E2:Ev c st c1 aH:=E0.pre P2;done;rw[src_list g2];ext;refine nD (ys:=mv) (f:=tm) (λi (G:GC) U=>G.c.ab=c1.ab/\Rep G.c (iI H1 (mv.take i)) U/\Ev c1 aH G.c U) (λG=>[(sz "self",some (.ab (c1.ab .inst))),(sz "left",some (tm l)),(sz "right",some (tm r)),(sz "why",some (wv w)),(sz "small",some (tm s)),(sz "large",some (tm g)),(sz "moved",some (.ab ml)),(sz "t",G.v),(sz "first",none),(sz "second",none),(sz "reasons",none)])
  (g:=⟨c1,none,none⟩) ⟨rfl,dr,.refl c1 aH⟩ (by unfold bp;(exact a9 az eT [.l af cK] rfl i8)) (λi G U h=>(h.2.2.get ml O2).trans g2) ?_ (GC.rec λc3 v3 Y aQ bz=> ?_)
 .intro i t G U P ht hI re _;obtain⟨hl,jC,hE⟩:=hI;obtain⟨a1,a2,a3⟩:=Gp (mv.take i) H1;have h3:(mv.take i).length<=100:=bx (vj _ _) i8;rw[<-hE.inst];ext;done;refine agu (hU t (jL ht)) (by rw[a1.b];(exact dC (.add kx aX) cc [.l cI (.num 2001),.l av (.add ak bo),.l bo cK] rfl BH a2 h3)) λc3 aQ xZ cU dG=> ?_;done;rw[hE.inst];exact re ⟨c3,some (tm t),none⟩ aQ ⟨xZ.trans hl,by rw[take_snoc ht,agy];exact cU,hE.trans dG⟩
 obtain⟨xZ,cU,dG⟩:=bz;rw[jY]at cU;obtain⟨a1,a2,a3⟩:=Gp mv H1;have O3:=dG.off O2;have g3:aQ[ml]? =some (.list (mv.map tm)):=by rw[dG.get ml O2,g2]
 have E3:=E2.trans dG;generalize iI H1 mv=H2 at*;rw[<-dG.inst];clear dG g2 O2 E2 dr P2 E0;rw[<-a1.mem]at y2;rw[<-a1.use]at y3 Gr;rw[<-a1.aD]at y4 my;rw[<-a1.aS]at y5;rw[<-a1.bk]at y8;rw[<-a1.val]at hV;rw[<-a1.ae,<-a1.mem]at my;rw[<-a1.b]at BH;have mz:H2.b.cN.length+H2.aU.length<=2101:=by exact dC (.add ak bo) (.num 2101) [.l af cK,.l ie (.num 2001),.l bo (.add av af)] rfl i8 BH a2
 have tA:H2.aN.length<=2000:=by rw[a3];exact y9
 clear BH a2 a3 y9;ext;done;refine agi ?_;ext;refine sW (e:=.join s g (H2.k.mem g).length (H2.k.use g).length (H2.k.aD g).length (H2.k.aS g).length (H2.k.val g)) rfl (by exact a8 (by exact aG (.add cI aX) cc [.l cI (.num 2101)] rfl mz)) λb6 ft fN=> ?_;replace ft:Rep c3 (qm H2 s g) b6:=ft;have O4:=fN.off O3;have g4:b6[ml]? =some (.list (mv.map tm)):=by rw[fN.get ml O3,g3]
 have E4:=E3.trans fN;have b1:nH H2 (qm H2 s g):=⟨rfl,rfl,rfl,rfl,rfl,rfl,rfl,rfl,rfl,rfl,rfl⟩;have b2:(qm H2 s g).aU.length=H2.aU.length+1:=by unfold qm;simp
 have b3:(qm H2 s g).aN=H2.aN:=rfl;unfold yb at k;generalize qm H2 s g=H3 at*;rw[<-b1.mem]at y2;rw[<-b1.use]at y3 Gr;rw[<-b1.aD]at y4 my;rw[<-b1.aS]at y5;rw[<-b1.bk]at y8;rw[<-b1.val]at hV;rw[<-b1.ae,<-b1.mem]at my;rw[<-b1.b]at mz;rw[<-b3]at tA;have mz:H3.b.cN.length+H3.aU.length<=2102:=by exact bq kx (.num 2102) [.l cI (.num 2101),.e av aK] rfl mz b2
 clear fN E3 g3 O3 b2 b3 a1 b1 cU;done;have Oc:=y2 s;refine nD (ys:=H3.k.mem s) (f:=tm) (λi (_:Option V) U=>Rep c3 (H3.AV (gO H3.k.ae g ((H3.k.mem s).take i))) U/\Ev c3 b6 c3 U) (λv=>[(sz "self",some (.ab (c3.ab .inst))),(sz "left",some (tm l)),(sz "right",some (tm r)),(sz "why",some (wv w)),(sz "small",some (tm s)),(sz "large",some (tm g)),(sz "moved",some (.ab ml)),(sz "t",v),(sz "first",none),(sz "second",none),(sz "reasons",none)])
  (g:=v3) ⟨ft,.refl c3 b6⟩ (by unfold bp;(exact a9 az eT [.l af cK] rfl Oc)) (λi v U h=>h.1.at' (.mem s)) ?_ (λv5 dE bz=> ?_)
 .intro i t v' U P ht hI re _;have jC:=hI.1;ext;done;refine Ms λdE gk fu=> ?_;done;refine re (some (tm t)) dE ⟨?_,hI.2.trans fu⟩;rw[take_snoc ht,show gO H3.k.ae g ((H3.k.mem s).take i++[t])=upd (gO H3.k.ae g ((H3.k.mem s).take i)) t g by unfold gO;rw[tw];rfl];exact gk
 obtain⟨gk,fu⟩:=bz;rw[jY]at gk;replace gk:Rep c3 (ib H3 s g) dE:=gk;have O5:=fu.off O4;have g5:dE[ml]? =some (.list (mv.map tm)):=by rw[fu.get ml O4,g4]
 have E5:=E4.trans fu;have Od:∀x∈(ib H3 s g).k.aD s,(ib H3 s g).k.ae x.1≠(ib H3 s g).k.ae x.2.1:=my;have y2:∀t,((ib H3 s g).k.mem t).length<=100:=y2;have y3:∀t,((ib H3 s g).k.use t).length<=100:=y3;have y4:∀t,((ib H3 s g).k.aD t).length<=400:=y4;have y5:∀t,((ib H3 s g).k.aS t).length<=400:=y5;have y8:(ib H3 s g).bk.length<=2000:=y8;have hV:(ib H3 s g).k.val s=none\/(ib H3 s g).k.val g=none:=hV;have mz:(ib H3 s g).b.cN.length+(ib H3 s g).aU.length<=2102:=mz;have tA:(ib H3 s g).aN.length<=2000:=tA;generalize ib H3 s g=H4 at*;clear fu E4 g4 O4 my Gr Oc ft;ext;done;refine aa8 yc (by exact a8 (bx (mD (y2 g) (y2 s)) (by decide))) λdF iZ nI=> ?_;done;refine aa9 yc (by exact a8 (bx (mD (y3 g) (y3 s)) (by decide))) λjA mu qo=> ?_;done;refine aa' yc (by exact a8 (bx (mD (y4 g) (y4 s)) (by decide))) λi5 lx gA=> ?_;done;refine aba yc (by exact a8 (bx (mD (y5 g) (y5 s)) (by decide))) λgQ oQ BJ=> ?_;replace oQ:Rep c3 (gP H4 s g) gQ:=oQ;have BK:=((nI.trans qo).trans gA).trans BJ;have O9:=BK.off O5;have g9:gQ[ml]? =some (.list (mv.map tm)):=by rw[BK.get ml O5,g5]
 have E9:=E5.trans BK;have my:∀x∈(gP H4 s g).k.aD s,(gP H4 s g).k.ae x.1≠(gP H4 s g).k.ae x.2.1:=by intro x hx;simp only[gP,bO yc]at hx⊢;exact Od x hx
 have BL:∀t,((gP H4 s g).k.aD t).length<=800:=by
  intro t;simp only[gP];by_cases h:t=g
  .rw[h,bK,bM];exact bx (mD (y4 g) (y4 s)) (by decide)
  .rw[bO h];exact bx (y4 t) (by decide)
 have Gs:((gP H4 s g).k.aS g).length<=800:=by simp only[gP,bK,bM];exact bx (mD (y5 g) (y5 s)) (by decide)
 have y8:(gP H4 s g).bk.length<=2000:=y8;have hV:(gP H4 s g).k.val s=none\/(gP H4 s g).k.val g=none:=hV;have mz:(gP H4 s g).b.cN.length+(gP H4 s g).aU.length<=2102:=mz;have tA:(gP H4 s g).aN.length<=2000:=tA;generalize gP H4 s g=H5 at*;clear BK nI qo gA BJ gk iZ mu lx E5 g5 O5 y2 y3 y4 y5 Od;done;refine MP (λaH=>Rep c3 (fO H5 s g) aH/\Ev c3 gQ c3 aH) ?_ ?_
 .ext;by_cases h:H5.k.val g=none
  .rw[if_pos h];done;refine Mt λkf kg ly=> ?_;done;exact⟨by trivial,by trivial,by unfold fO;rw[if_pos (by rw[h];rfl)];exact kg,ly⟩
  .rw[if_neg h];exact⟨by unfold fO;rw[if_neg (by simpa using h)];exact oQ,.refl c3 gQ⟩
 intro kf bz;obtain⟨kg,ly⟩:=bz;have BM:=ly.off O9;have oR:kf[ml]? =some (.list (mv.map tm)):=by rw[ly.get ml O9,g9]
 have Oe:=E9.trans ly;have hv5:oz (H5.k.val s)=oz (H5.k.val s):=rfl;generalize uW:H5.k.val s=vs at*;generalize so:H5.k.val g=vg at*;have c1:(fO H5 s g).k.aD=H5.k.aD:=by unfold fO;split<;>rfl
 have c2:(fO H5 s g).k.aS=H5.k.aS:=by unfold fO;split<;>rfl
 have c4:(fO H5 s g).k.ae=H5.k.ae:=by unfold fO;split<;>rfl
 have c5:(fO H5 s g).bk=H5.bk:=by unfold fO;split<;>rfl
 have c6:(fO H5 s g).b=H5.b:=by unfold fO;split<;>rfl
 have c7:(fO H5 s g).aU=H5.aU:=by unfold fO;split<;>rfl
 have c8:(fO H5 s g).aN=H5.aN:=by unfold fO;split<;>rfl
 generalize fO H5 s g=H6 at*;rw[<-c1,<-c4]at my;rw[<-c1]at BL;rw[<-c2]at Gs;rw[<-c5]at y8;rw[<-c6,<-c7]at mz;rw[<-c8]at tA;clear c1 c2 c4 c5 c6 c7 c8 ly E9 g9 O9 oQ uW so hv5;done;rw[src_list oR];ext;refine nD (ys:=mv) (f:=tm) (λi (G:GC) U=>G.c.ab=c3.ab/\Rep G.c (i7 H6 (mv.take i)) U/\Ev c3 kf G.c U) (λG=>[(sz "self",some (.ab (c3.ab .inst))),(sz "left",some (tm l)),(sz "right",some (tm r)),(sz "why",some (wv w)),(sz "small",some (tm s)),(sz "large",some (tm g)),(sz "moved",some (.ab ml)),(sz "t",G.v),(sz "first",some (oz vs)),(sz "second",some (oz vg)),(sz "reasons",none)])
  (g:=⟨c3,v5,none⟩) ⟨rfl,kg,.refl c3 kf⟩ (by unfold bp;(exact a9 az eT [.l af cK] rfl i8)) (λi G U h=>(h.2.2.get ml BM).trans oR) ?_ (GC.rec λc4 v11 Y qp bz=> ?_)
 .intro i t G U P ht hI re _;obtain⟨hl,jC,hE⟩:=hI;obtain⟨a1,a2,a3⟩:=Gq (mv.take i) H6;have h3:(mv.take i).length<=100:=bx (vj _ _) i8;rw[<-hE.inst];ext;done;refine agv (hU t (jL ht)) (by rw[a1.b];(exact dC (.add kx aX) cc [.l cI (.num 2102),.l av (.add ak bo),.l bo cK] rfl mz a2 h3)) (by exact bq aK cc [.l af d9,.l ak kx,.l av cK] rfl tA a3 h3) λc4 qp ya qq yd=> ?_;done;rw[hE.inst];exact re ⟨c4,some (tm t),none⟩ qp ⟨ya.trans hl,by rw[take_snoc ht,agz];exact qq,hE.trans yd⟩
 obtain⟨ya,qq,yd⟩:=bz;rw[jY]at qq;obtain⟨a1,a2,a3⟩:=Gq mv H6;have ye:=Oe.trans yd;rw[<-yd.inst];generalize i7 H6 mv=H7 at*;rw[<-a1.aD,<-a1.ae]at my;rw[<-a1.aD]at BL;rw[<-a1.aS]at Gs;rw[<-a1.bk]at y8;rw[<-a1.b]at mz;clear yd Oe oR BM kg;ext;done;rw[if_neg (by rcases hV with h|h;exact λq=>q.1 h;exact λq=>q.2 h)];ext;refine agj (by have:=BL s;(exact a9 az dI [.l af (.num 800)] rfl this)) my ?_;done;done;refine N7 (λt=>by have:=BL t;(exact a9 az dI [.l af (.num 800)] rfl this)) (by exact a9 af dI [.l af (.num 800)] rfl Gs) (by exact a9 af (.num 3000) [.l af d9] rfl y8) (by exact dC (.add ak bo) (.num 3000) [.l af cK,.l ie (.num 2102),.l bo (.add av af)] rfl i8 mz a2) λc5 yg hS Of yh=> ?_;walk_at "ss";exact kR _ _ (k c5 yg (by rw[hS.ab,ya,xZ,dp]) Of (ye.trans yh))
def agF [hR:Rep c H st] (hJ:mw H l r)(Gu:mw H r l)(k:∀c' U,c'.ab=c.ab->Rep c' (iJ H l r w) U->Ev c st c' U->Q .none U):wp ((ip (n+100)).call (sz "Congruence",sz "join") [.ab (c.ab .inst),tm l,tm r,wv w]) Q st:=by
 obtain⟨ps,s0,rest,scope,gI,key⟩:=agE n;walk_at "go";have e:=gI.symm.trans (show ij (sz "Congruence",sz "join") aY.tab=some ⟨_,_::_,_⟩from by rfl);simp only[eW,FD.mk.injEq,nJ]at e;obtain⟨rfl,⟨rfl,rfl⟩,rfl⟩:=e;done;have h1:_=some (O.list _):=hR.at' (.mem (H.k.ae l));have h2:_=some (O.list _):=hR.at' (.mem (H.k.ae r));rw[eK h1];ext;rw[eK h2];ext;simp only[aP];by_cases h:(H.k.mem (H.k.ae r)).length<(H.k.mem (H.k.ae l)).length
 .rw[if_pos (jm.mpr h)];done;done;exact key hR Gu (by rw[show qn H r l w=iJ H l r w by unfold iJ;rw[if_pos h]];exact k) λaj U h=>h
 .rw[if_neg (mt jm.mp h)];done;exact key hR hJ (by rw[show qn H l r w=iJ H l r w by unfold iJ;rw[if_neg h]];exact k) λaj U h=>h
end
end
section
abbrev f6(H:aB)(q:Th×Th×bR):aB:=if H.k.ae q.1=H.k.ae q.2.1 then H else iJ H q.1 q.2.1 q.2.2
abbrev lz:Nat->Nat->aB->aB
 |0,_,H=>H
 |n+1,i,H=>match H.aN[i]? with
  |none=>H
  |some q=>lz n (i+1) (f6 H q)
abbrev jD:Nat->Nat->aB->Prop
 |0,_,_=>False
 |n+1,i,H=>match H.aN[i]? with
  |none=>True
  |some q=>(H.k.ae q.1≠H.k.ae q.2.1->mw H q.1 q.2.1/\mw H q.2.1 q.1)/\jD n (i+1) (f6 H q)
def Gv{n:Nat}{H:aB}:jD (n+1) i H=match H.aN[i]? with|none=>True|some q=>(H.k.ae q.1≠H.k.ae q.2.1->mw H q.1 q.2.1/\mw H q.2.1 q.1)/\jD n (i+1) (f6 H q):=rfl
def BN{n:Nat}{H:aB}:lz (n+1) i H=match H.aN[i]? with|none=>H|some q=>lz n (i+1) (f6 H q):=rfl
def jD.step{m:Nat}{H:aB}(h:jD m i H):∃m',m=m'+1/\match H.aN[i]? with
 |none=>True
 |some q=>(H.k.ae q.1≠H.k.ae q.2.1->mw H q.1 q.2.1/\mw H q.2.1 q.1)/\jD m' (i+1) (f6 H q):=
 Nat.casesOn (motive:=λm=>jD m i H->∃m',m=m'+1/\match H.aN[i]? with
  |none=>True
  |some q=>(H.k.ae q.1≠H.k.ae q.2.1->mw H q.1 q.2.1/\mw H q.2.1 q.1)/\jD m' (i+1) (f6 H q)) m (λh=>False.elim h) (λm h=>⟨m,rfl,h⟩) h
structure GQ where
 i:Nat
 c:ck
 H:aB
 v1:Option V
 v2:Option V
 v3:Option V
abbrev i9(n:Nat)(H:aB):aB:={lz n 0 H with aN:=[]}
section
variable{st:ah}
def Gw [hR:Rep c H st] (hC:jD f 0 H)(hf:f<100)(k:∀c' U,Rep c' (i9 f H) U->Ev c st c' U->Q .none U):
 wp ((ip (n+120)).call (sz "Congruence",sz "close") [.ab (c.ab .inst)]) Q st:=by
 walk_at "go";done;done;refine s9 (λm (G:GQ) U=>jD m G.i G.H/\lz m G.i G.H=lz f 0 H/\m<=f/\G.i+m=f/\G.c.ab=c.ab/\Rep G.c G.H U/\Ev c st G.c U)
  (λG=>[(sz "self",some (.ab (c.ab .inst))),(sz "spot",some (.int (G.i:Int))),(sz "left",G.v1),(sz "right",G.v2),(sz "why",G.v3)])
  (g:=⟨0,c,H,none,none,none⟩) ⟨hC,rfl,bG _,nP _,rfl,hR,.refl c st⟩ (by unfold bp;(exact a9 az eT [.l az cK] rfl hf)) ?_
 intro m1 G au P;refine GQ.rec (λi c1 H1 v1 v2 v3=> ?_) G;intro bz re ret;dsimp only at bz;obtain⟨qr,qt,hm,yi,dp,cL,cQ⟩:=bz;obtain⟨m,em,qr⟩:=qr.step;rw[em,BN]at qt;rw[em]at hm yi;have hq:_=some (O.list _):=cL.at' .aN;rw[<-cQ.inst];ext;rw[eK hq];ext;cases yj:H1.aN[i]? with
 |none=>rw[yj]at qt;have hge:=pP.mp yj;rw[if_neg (by simp only[aP];exact λq=>absurd (jm.mp q) (fT.mpr hge))];ext;done;refine fm (c:=c1) (a8 (by simp)) λl aH dr P2 O2 e2 g2=> ?_;ext;refine MG (xs:=[]) (cQ.pre P2) (by have:=cQ.len;(exact bq av ak [.l af ak,.l av af] rfl e2 this)) O2 g2 λc3 aQ cU dG Y=> ?_;ext;done;exact k c3 aQ (by unfold i9;rw[<-qt];exact cU) dG
 |some q=>
  rw[yj]at qt qr;simp only at qt qr;have cB:=(b9.mp yj).1;rw[if_pos (by simp only[aP];exact jm.mpr cB)];done;rw[qf hq (by rw[fh,yj];rfl) rfl];ext;done;done;by_cases hr:H1.k.ae q.1=H1.k.ae q.2.1
  .rw[if_neg (by simpa using hr)];done;done;have sE:f6 H1 q=H1:=by unfold f6;rw[if_pos hr]
   rw[sE]at qr qt;rw[cQ.inst];exact re m ⟨i+1,c1,H1,_,_,_⟩ au (em▸oB m) ⟨qr.2,qt,by exact aG af ak [.l az ak] rfl hm,by exact dU (bq (.add az ak) av [.e (.add af aK) av] rfl yi) (bq av (.add az ak) [.q (.add af aK) av] rfl yi),dp,cL,cQ⟩
  .rw[if_pos hr];done;obtain⟨hJ,Gu⟩:=qr.1 hr;refine agF hJ Gu λc2 aH eg dr dB=> ?_;done;done;have sE:f6 H1 q=iJ H1 q.1 q.2.1 q.2.2:=by unfold f6;rw[if_neg hr]
   rw[sE]at qr qt;rw[cQ.inst];exact re m ⟨i+1,c2,_,_,_,_⟩ aH (em▸oB m) ⟨qr.2,qt,by exact aG af ak [.l az ak] rfl hm,by exact dU (bq (.add az ak) av [.e (.add af aK) av] rfl yi) (bq av (.add az ak) [.q (.add af aK) av] rfl yi),eg.trans dp,dr,cQ.trans dB⟩
def BO [hR:Rep c H st] (hq:H.aN=[])(k:∀c' U,Rep c' H U->Ev c st c' U->Q .none U):
 wp ((ip (n+130)).call (sz "Congruence",sz "add_term") [.ab (c.ab .inst),tm t]) Q st:=by
 walk_at "go";done;refine fm (c:=c) (a8 (by simp)) λsl au cL P1 O1 e1 g1=> ?_;done;refine s9 (λm (G:GV) U=>Pre st U/\((m=1/\U[sl]? =some (.list [tm t]))\/(m=0/\U[sl]? =some (.list []))))
  (λG=>[(sz "self",some (.ab (c.ab .inst))),(sz "t",some (tm t)),(sz "stack",some (.ab sl)),(sz "here",G.v),(sz "missing",G.w)]) (n:=1) (g:=⟨none,none,none,none⟩) ⟨P1,.inl ⟨rfl,g1⟩⟩ (by decide) ?_
 clear g1 cL P1;intro m G aH P hI re ret;have P2:=hI.1;rcases hI.2 with⟨em,g2⟩|⟨em,g2⟩
 .have dr:Rep c H aH:=hR.pre P2;ext;rw[eK g2];ext;rw[if_pos (by simp)];done;rw[ML (xs:=[]) g2 (by rfl)];done;refine fm (c:=c) (a8 (by simp)) λml aQ cU P3 O3 e3 g3=> ?_;done;done;done;rw[eK g3];ext;rw[if_neg (by simp)];have lr:=P3 _ _ g2;done;rw[qa lr rfl];ext;refine MN (xs:=[]) lr (by have:=hR.lt .inst;lia) (a8 (by simp)) ?_;ext;have P4:Pre st (gj aQ sl (O.list [])):=(P2.trans P3).set e1 _;have ft:Rep c H (gj aQ sl (O.list [])):=hR.pre P4;done;walk_at "ss";exact re 0 ⟨_,_,none,none⟩ _ (em▸oB 0) ⟨P4,.inr ⟨rfl,get_set lr⟩⟩
 .have dr:Rep c H aH:=hR.pre P2;ext;rw[eK g2];ext;rw[if_neg (by simp)];ext;done;refine Gw (f:=1) (by rw[Gv,hq];exact trivial) (by decide) λc3 aQ cU dG=> ?_;done;refine k c3 aQ ?_ ((Ev.nr P2).trans dG);have:i9 1 H=H:=by
   unfold i9;rw[BN,hq];obtain⟨b,k,t,ns,q,ms⟩:=H;simp only at hq;rw[hq];rfl
  rw[<-this];exact cU
def agG [hR:Rep c H st] {m:Nat}(hq:H.aN=[])(hC:jD f 0 {H with aN:=[(a,b,some m)]})(hf:f<100)(k:∀c' U,Rep c' (i9 f {H with aN:=[(a,b,some m)]}) U->Ev c st c' U->Q .none U):
 wp ((ip (n+150)).call (sz "Congruence",sz "merge") [.ab (c.ab .inst),tm a,tm b,.int (m:Int)]) Q st:=by
 walk_at "go";done;refine BO hq λc1 au cL cQ=> ?_;rw[<-cQ.inst];done;refine BO hq λc2 aH dr dB=> ?_;rw[<-dB.inst];done;refine MA (e:=(a,b,some m)) rfl (a8 (by rw[hq];simp)) λaQ cU dG=> ?_;have e3:H.aN++[(a,b,some m)]=[(a,b,some m)]:=by rw[hq];rfl
 rw[e3]at cU;done;refine Gw hC hf λc4 b6 ft fN=> ?_;done;exact k c4 b6 ft (((cQ.trans dB).trans dG).trans fN)
abbrev tB(H:aB)(a b:Th)(m:Nat):aB:=tells {H with k:=⟨H.k.ae,H.k.mem,H.k.use,H.k.val,upd (upd H.k.aD (H.k.ae a) (H.k.aD (H.k.ae a)++[(a,b,m)])) (H.k.ae b) (H.k.aD (H.k.ae b)++[(a,b,m)]),H.k.aS,H.k.up,H.k.tab,H.k.aA⟩,aU:=H.aU++[.apart (H.k.ae a) (H.k.ae b)]} (H.k.aS (H.k.ae a))
def agH [hR:Rep c H st] {m:Nat}(hq:H.aN=[])(hr:H.k.ae a≠H.k.ae b)(hA:∀t,(H.k.aD t).length<=400)(hW:∀t,(H.k.aS t).length<=400)(hN:H.bk.length<=2000)(hT:H.b.cN.length+H.aU.length<=2000)
 (k:∀c' U,Rep c' (tB H a b m) U->Ev c st c' U->Q .none U):
 wp ((ip (n+150)).call (sz "Congruence",sz "separate") [.ab (c.ab .inst),tm a,tm b,.int (m:Int)]) Q st:=by
 walk_at "go";done;refine BO hq λc1 au cL cQ=> ?_;rw[<-cQ.inst];done;refine BO hq λc2 aH dr dB=> ?_;rw[<-dB.inst];done;done;done;done;rw[if_neg hr];done;done;refine MB (e:=(a,b,m)) rfl (by have:=hA (H.k.ae a);exact a8 (by exact a9 az cc [.l af nS] rfl this)) λaQ cU dG=> ?_;done;refine MB (e:=(a,b,m)) rfl (by have:=hA (H.k.ae b);simp only;rw[bO (b0 hr)];exact a8 (by exact a9 az cc [.l af nS] rfl this)) λb6 ft fN=> ?_;simp only[bO (b0 hr)]at ft;done;refine sW (e:=.apart (H.k.ae a) (H.k.ae b)) rfl (by exact a8 (by simp only;(exact aG (.add cI aX) cc [.l cI d9] rfl hT))) λdE gk fu=> ?_;done;refine N7 ?_ (by have:=hW (H.k.ae a);simp only;(exact a9 af dI [.l af nS] rfl this)) (by simp only;(exact a9 af (.num 3000) [.l af d9] rfl hN)) (by rw[bM,fK];(exact aG (.add af aK) (.num 3000) [.l cI d9] rfl hT)) λc6 dF hS iZ nI=> ?_
 .intro t;simp only;have:=hA (H.k.ae a);have:=hA (H.k.ae b);have:=hA t
  by_cases h:t=H.k.ae b
  .rw[h,bK,bM,fK];exact a9 (.add az aX) dI [.l af nS] rfl (by assumption)
  .rw[bO h];by_cases h:t=H.k.ae a
   .rw[h,bK,bM,fK];exact a9 (.add az aX) dI [.l af nS] rfl (by assumption)
   .rw[bO h];exact a9 az dI [.l af nS] rfl this
 .done;exact k c6 dF iZ (((((cQ.trans dB).trans dG).trans fN).trans fu).trans nI)
abbrev vA(H:aB):aB:={H with bt:=H.bt++[H.b.cN.length+H.aU.length]}
def agI [hR:Rep c H st] (hM:H.bt.length<=100)(k:∀U,Rep c (vA H) U->Ev c st c U->Q .none U):wp ((ip (n+30)).call (sz "Congruence",sz "push_level") [.ab (c.ab .inst)]) Q st:=by walk_at "go";done;rw[eK (hR.at' .aU)];ext;refine aa7 (e:=H.b.cN.length+H.aU.length) (by simp[nat]) (a8 (a9 az cc [.l af cK] rfl hM)) λau cL cQ=> ?_;done;exact k au cL cQ
end
end
variable{v u s:Th}{a:Nat}{K0:Core}
section
abbrev yk:Ent->Core->Core
 |.tab r o,k=>⟨k.ae,k.mem,k.use,k.val,k.aD,k.aS,k.up,upd k.tab r o,k.aA⟩
 |.join s l m u a w v,k=>⟨gO k.ae s (k.mem s),upd k.mem l ((k.mem l).take m),upd k.use l ((k.use l).take u),upd k.val l v,upd k.aD l ((k.aD l).take a),upd k.aS l ((k.aS l).take w),k.up,k.tab,k.aA⟩
 |.di l top,k=>⟨k.ae,k.mem,k.use,k.val,k.aD,k.aS,cw (upd k.up l none) top,k.tab,k.aA⟩
 |.apart a b,k=>⟨k.ae,k.mem,k.use,k.val,upd (upd k.aD a (k.aD a).dropLast) b (k.aD b).dropLast,k.aS,k.up,k.tab,k.aA⟩
 |.aA t,k=>⟨k.ae,k.mem,k.use,k.val,k.aD,k.aS,k.up,k.tab,upd k.aA t none⟩
abbrev yl:Ent->Core->Prop
 |.tab r o,k=>o=none->(k.tab r).isSome
 |.join s l m u a w v,k=>s≠l/\m<=(k.mem l).length/\u<=(k.use l).length/\a<=(k.aD l).length/\w<=(k.aS l).length/\(k.mem s).length<=1000/\m<=1000/\u<=1000/\a<=1000/\w<=1000
 |.di l top,k=>(k.up l).isSome/\dj (upd k.up l none)
 |.apart a b,k=>a≠b/\k.aD a≠[]/\k.aD b≠[]/\(k.aD a).length<=1000/\(k.aD b).length<=1000
 |.aA t,k=>(k.aA t).isSome
section
variable{st:ah}
def agJ [hR:Rep c H st] {m u w:Nat}{v:Option Th}(hU:yl (.join s l m u a w v) H.k)(k:∀c' U,Rep c' {H with k:=yk (.join s l m u a w v) H.k} U->Ev c st c' U->Q .none U):
 wp ((ip (n+30)).call (sz "Congruence",sz "part") [.ab (c.ab .inst),tm s,tm l,.tup [nat m,nat u,nat a,nat w],oz v]) Q st:=by
 obtain⟨ba,h1,h2,h3,h4,h5,h6,h7,h8,h9⟩:=hU;walk_at "go";have g1:_=some (O.list _):=hR.at' (.mem l);done;rw[d5 g1,sZ (by simpa using h1)];refine fm (c:=c) (a8 (by rw[m8,aP];lia)) λl1 au cL P1 O1 e1 BP=> ?_;ext;refine abh (xs:=(H.k.mem l).take m) (.nr P1) e1 O1 (by rw[BP,tC]) λc2 aH dr dB Y=> ?_;rw[<-dB.inst];have g2:_=some (O.list _):=dr.at' (.use l);done;rw[d5 g2,sZ (by simpa using h2)];refine fm (c:=c2) (a8 (by simp only[m8,aP];lia)) λl3 aQ cU P3 O3 e3 gg3=> ?_;ext;refine abi (xs:=(H.k.use l).take u) (dB.pre P3) (by have:=dB.len;(exact bq av ak [.l af ak,.l av af] rfl e3 this)) O3 (by rw[gg3,tC]) λc4 b6 ft fN Y=> ?_;rw[dB.inst,<-fN.inst];have g4:_=some (O.list _):=ft.at' (.aD l);done;rw[d5 g4,sZ (by simpa using h3)];ext;refine fm (c:=c4) (a8 (by simp only[m8,aP];lia)) λl5 dE gk P5 O5 e5 gg5=> ?_;ext;refine abj (xs:=(H.k.aD l).take a) (fN.pre P5) (by have:=fN.len;(exact bq av ak [.l af ak,.l av af] rfl e5 this)) O5 (by rw[gg5,tC]) λc6 dF iZ nI Y=> ?_;rw[fN.inst,<-nI.inst];have g6:_=some (O.list _):=iZ.at' (.aS l);done;rw[d5 g6,sZ (by simpa using h4)];ext;refine fm (c:=c6) (a8 (by simp only[m8,aP];lia)) λl7 jA mu P7 O7 e7 gg7=> ?_;ext;refine abk (xs:=(H.k.aS l).take w) (nI.pre P7) (by have:=nI.len;(exact bq av ak [.l af ak,.l av af] rfl e7 this)) O7 (by rw[gg7,tC]) λc8 i5 lx gA Y=> ?_;rw[nI.inst,<-gA.inst];done;refine Mt λgQ oQ BJ=> ?_;done;generalize Gx:(aB.E7 _ _)=H9 at oQ;have Og:H9.k.mem s=H.k.mem s:=by rw[<-Gx];exact bO ba
 have hr9:H9.k.ae=H.k.ae:=by rw[<-Gx]
 refine nD (ys:=H9.k.mem s) (f:=tm) (λi (_:Option V) U=>Rep c8 (H9.AV (gO H9.k.ae s ((H9.k.mem s).take i))) U/\Ev c8 gQ c8 U)
  (λv2=>[(sz "self",some (.ab (c8.ab .inst))),(sz "small",some (tm s)),(sz "large",some (tm l)),(sz "lengths",some (.tup [nat m,nat u,nat a,nat w])),(sz "value",some (oz v)),(sz "t",v2)])
  (g:=none) ⟨oQ,.refl c8 gQ⟩ (by rw[Og];unfold bp;(exact a9 az eT [.l af dI] rfl h5)) (λi v U h=>h.1.at' (.mem s)) ?_ (λv2 kf hI=> ?_)
 .intro i t v2 U P ht hI re _;have jC:=hI.1;ext;done;refine Ms λkf kg ly=> ?_;done;refine re (some (tm t)) kf ⟨?_,hI.2.trans ly⟩;rw[take_snoc ht,show gO H9.k.ae s ((H9.k.mem s).take i++[t])=upd (gO H9.k.ae s ((H9.k.mem s).take i)) t s by unfold gO;rw[tw];rfl];exact kg
 .obtain⟨kg,ly⟩:=hI;rw[jY,Og,hr9]at kg;ext;done;refine k c8 kf ?_ (gA.trans (BJ.trans ly));rw[<-Gx]at kg;exact kg
def agK [hR:Rep c H st] {e:Ent}{v1 v2:V}(hU:yl e H.k)(k:∀c' U,Rep c' {H with k:=yk e H.k} U->Ev c st c' U->Q .none U):
 wp ((ip (n+60)).call (sz "Congruence",sz "undo") [.ab (c.ab .inst),rH e,v1,v2]) Q st:=by
 cases e with
 |tab r o=>
  walk_at "go";walk_at "ss";cases o with
  |none=>
   rw[if_pos rfl];done;obtain⟨x,hx⟩:=mV.mp (hU rfl);refine My (e:=x) (by exact hx) λc1 au dp cL cQ=> ?_;walk_at "ss";exact k c1 au cL cQ
  |some t=>rw[if_neg (by simp)];done;rw[show on (some t)=tm t from rfl];refine Mv λc1 au dp cL cQ=> ?_;walk_at "ss";exact k c1 au cL cQ
 |join s l m u a w v=>show wp (aT.call _ _ [_,.tup _,_,_]) Q st;walk_at "go";walk_at "ss";refine agJ hU λc1 au cL cQ=> ?_;walk_at "ss";exact k c1 au cL cQ
 |di l top=>
  show wp (aT.call _ _ [_,.tup _,_,_]) Q st;walk_at "go";walk_at "ss";obtain⟨x,hx⟩:=mV.mp hU.1;refine Mx (e:=x) (by exact hx) λc1 au dp cL cQ=> ?_;rw[<-cQ.inst];done;refine N8 (by exact hU.2) λc2 aH eg dr dB=> ?_;walk_at "ss";exact k c2 aH dr (cQ.trans dB)
 |apart a b=>
  show wp (aT.call _ _ [_,.tup _,_,_]) Q st;walk_at "go";walk_at "ss";obtain⟨h1,h2,h3,h4,h5⟩:=hU;refine MD (uq h2).symm (a8 (by rw[zH];exact bx (Gy _ _) (bx h4 (by decide)))) λau cL cQ=> ?_;done;have h6:upd H.k.aD a (H.k.aD a).dropLast b=H.k.aD b:=bO (b0 h1);refine MD (l:=(H.k.aD b).dropLast) (e:=(H.k.aD b).getLast h3) (by simp only;rw[h6];exact(uq h3).symm) (a8 (by rw[zH];exact bx (Gy _ _) (bx h5 (by decide)))) λaH dr dB=> ?_;walk_at "ss";exact k c aH dr (cQ.trans dB)
 |aA t=>
  show wp (aT.call _ _ [_,.tup _,_,_]) Q st;walk_at "go";walk_at "ss";obtain⟨x,hx⟩:=mV.mp hU;refine aa3 (e:=x) (by exact hx) λc1 au dp cL cQ=> ?_;walk_at "ss";exact k c1 au cL cQ
inductive Bk(K0:Core):List Ent->Core->Prop
 |nil:Bk K0 [] K0
 |snoc {es:List Ent} {e:Ent} {K K':Core}:Bk K0 es K->yl e K'->yk e K'=K->Bk K0 (es++[e]) K'
def agL [hR:Rep c H st] (k:Q .none st):wp ((ip (n+100)).call (sz "Congruence",sz "pop_levels") [.ab (c.ab .inst),.int 0]) Q st:=by walk_at "go";done;simp only[Int.le_refl];done;exact k
structure GU where
 es:List Ent
 K:Core
 c:ck
def s_pop [hR:Rep c H st] {fP oS:List Nat}{mk:Nat}{tr es:List Ent}{i:Int}(hi:i=oS.length+1)(hm:H.bt=fP++mk::oS)(om:mk=H.b.cN.length+tr.length)(ht:H.aU=tr++es)(hB:Bk K0 es H.k)
 (hT:H.b.cN.length+H.aU.length<=2000) (hM:H.bt.length<=100) (hN:H.bk.length<=2000)
 (k:∀c' U,Rep c' ⟨H.b,K0,tr,H.bk.filter λt=>(K0.aA t).isSome,[],fP⟩ U->Ev c st c' U->Q .none U):
 wp ((ip (n+200)).call (sz "Congruence",sz "pop_levels") [.ab (c.ab .inst),.int i]) Q st:=by
 walk_at "go";done;rw[if_neg (by rw[hi];exact wm.mpr (Jz _))];have g1:_=some (O.list _):=hR.at' .bt;done;done;rw[eK g1];ext;have hms:fP.length+1+oS.length<=100:=by rw[hm]at hM;simp only[bM,mO]at hM;exact aG (.add az ak) cK [.l (.add af aK) cK] rfl hM
 have hlen:(H.bt.map nat).length=fP.length+1+oS.length:=by rw[hm];simp;exact dU (aG (.add af aK) (.add az ak) [] rfl) (aG (.add az ak) (.add af aK) [] rfl)
 rw[hlen,qf (v:=nat mk) (j:=fP.length) g1 (by rw[hm];simp) (by rw[hi];exact MM ..)];done;rw[eK g1,hlen];ext;rw[d5 g1,show((fP.length+1+oS.length:Nat):Int)-i=((fP.length:Nat):Int) by rw[hi];exact MM ..,sZ (by rw[hlen];(exact aG af (.add az ak) [] rfl))];refine fm (c:=c) (a8 (by rw[m8,hlen];exact bx (Gg _ _) (bx hms (by decide)))) λl1 au cL P1 O1 e1 BP=> ?_;ext;refine abe (xs:=fP) (.nr P1) e1 O1 (by rw[BP,hm,cD,Gz (by simp)]) λc2 aH dr dB Y=> ?_;rw[<-dB.inst];done;refine fm (c:=c2) (a8 (by simp)) λen aQ cU P3 O3 e3 g3=> ?_;ext;refine fm (c:=c2) (a8 (by simp)) λwt b6 ft P4 O4 e4 g4=> ?_;ext;done;have GA:=O3.pre P4;have oO:=P4 _ _ g3;have E4:Ev c st c2 b6:=(dB.pre P3).pre P4;refine s9 (λm (G:GU) U=>G.es.length=m/\m<=es.length/\Bk K0 G.es G.K/\Rep G.c ⟨H.b,G.K,tr++G.es,H.bk,H.aN,fP⟩ U/\Ev c2 b6 G.c U)
  (λG=>[(sz "self",some (.ab (c2.ab .inst))),(sz "n",some (.int i)),(sz "spot",some (nat mk)),(sz "entered",some (.ab en)),(sz "watched",some (.ab wt)),(sz "t",none),(sz "left",none),(sz "right",none)])
  (n:=es.length) (g:=⟨es,H.k,c2⟩) ⟨rfl,bG _,hB,by rw[<-ht];exact ft,.refl c2 b6⟩ (by rw[ht,bM]at hT;unfold bp;(exact bq bD eT [.l (.add af ie) d9] rfl hT)) ?_
 clear g1 hlen hB cL P1 O1 e1 BP dr P3 cU P4 ft e3 e4;intro m G dE P;refine GU.rec (λiy K c5=> ?_) G;intro bz re ret;dsimp only at bz;obtain⟨hm5,Oh,hB5,gk,fu⟩:=bz;have g5:_=some (O.list _):=gk.at' .aU;rw[<-fu.inst];ext;rw[eK g5];ext;simp only[nat];ext;simp only[bM,aP];cases hB5 with
 | @snoc eY e K1 _ hB1 hU hF=>
  rw[if_pos (by simp only[bM,fK];rw[om];exact jm.mpr (Nat.add_lt_add_left (Nat.lt_add_of_pos_right (As _)) _))];have GB:eY.length+1=m:=by simpa using hm5
  done;refine abc (e:=e) (tr:=tr++eY) (by simp) (a8 (by rw[ht,bM]at hT;simp only[bM];(exact mE (.add af (.add ak cX)) cc [.l (.add af ie) d9,.l bo av,.e (.add cX aX) bo] rfl hT Oh GB))) λdF iZ nI=> ?_;ext;refine agK (by exact hU) λc7 jA mu qo=> ?_;done;rw[hF]at mu;rw[fu.inst];exact re eY.length ⟨eY,K1,c7⟩ jA (by exact aG az ak [.e az ak] rfl GB) ⟨rfl,by exact bq av ak [.l af ak,.e bD af] rfl Oh GB,hB1,mu,fu.trans (nI.trans qo)⟩
 |nil=>
  rw[if_neg (by simp only[wO];rw[om];exact Xh _)];have GD:=fu.off GA;have GF:=fu.off O4;have g5e:dE[en]? =some (.list []):=by rw[fu.get en GA,oO]
  have g5w:dE[wt]? =some (.list []):=by rw[fu.get wt O4,g4]
  have E5:=E4.trans fu;clear oO g3 g4 O3 GA O4 E4 g5;rw[gv]at gk;ext;done;refine fm (c:=c5) (a8 (by simp)) λl6 dF iZ P6 O6 e6 gg6=> ?_;ext;refine MG (xs:=[]) (E5.pre P6) (by have:=E5.len;(exact bq av ak [.l af ak,.l av af] rfl e6 this)) O6 gg6 λc7 jA mu qo BQ=> ?_;rw[E5.inst,<-qo.inst];have Oi:en≠l6:=by have:=GD.lt;exact cO [.l af ak,.l bD af,.q av ak] rfl e6 this
  have Oj:wt≠l6:=by have:=GF.lt;exact cO [.l af ak,.l bD af,.q av ak] rfl e6 this
  have GG:=BQ.off en (GD.pre P6) Oi;have GI:=BQ.off wt (GF.pre P6) Oj;have g7e:jA[en]? =some (.list []):=by rw[BQ.get en (GD.pre P6) Oi];exact P6 _ _ g5e
  have g7w:jA[wt]? =some (.list []):=by rw[BQ.get wt (GF.pre P6) Oj];exact P6 _ _ g5w
  done;done;done;ext;refine vk (ys:=H.bk) (λt=>(K0.aA t).isSome) bJ (mu.at' .bk) (by unfold bp;(exact a9 az eT [.l af d9] rfl hN)) ?_ ?_
  .intro t P dW re;ext;by_cases hs:(K0.aA t).isSome=true
   .rw[if_pos hs]at re⊢;ext;exact re
   .rw[if_neg hs]at re⊢;exact k_rt re
  have hf:=jU (λt=>(K0.aA t).isSome) H.bk;refine fm (c:=c7) (a8 (by rw[aP];(exact aG ak cc [.l af d9,.l ak af] rfl hN hf))) λl9 gQ oQ P9 O9 e9 g9=> ?_;ext;refine abd (xs:=H.bk.filter λt=>(K0.aA t).isSome) (qo.pre P9) (by have:=qo.len;(exact bq av ak [.l af ak,.l av af] rfl e9 this)) O9 g9 λc10 kf kg ly BR=> ?_;rw[qo.inst,<-ly.inst];have Ol:en≠l9:=by have:=GG.lt;exact cO [.l af ak,.l bD af,.q av ak] rfl e9 this
  have Om:wt≠l9:=by have:=GI.lt;exact cO [.l af ak,.l bD af,.q av ak] rfl e9 this
  have aj2:=BR.off en (GG.pre P9) Ol;have agM:=BR.off wt (GI.pre P9) Om;have agN:kf[en]? =some (.list []):=by rw[BR.get en (GG.pre P9) Ol];exact P9 _ _ g7e
  have agO:kf[wt]? =some (.list []):=by rw[BR.get wt (GI.pre P9) Om];exact P9 _ _ g7w
  done;rw[d5 agN];ext;refine fm (c:=c10) (a8 (by simp)) λl11 qp qq qv O11 e11 BS=> ?_;ext;rw[src_list BS];ext;refine MQ BS ?_;ext;done;refine Gw (f:=1) (by unfold jD;exact trivial) (by decide) λOo yg Of yh=> ?_;have agP:yg[wt]? =some (.list []):=by rw[yh.get wt (agM.pre qv)];exact qv _ _ agO
  rw[<-yh.inst];done;rw[d5 agP];ext;refine fm (c:=Oo) (a8 (by simp)) λl13 agQ agR vB O13 e13 Oq=> ?_;ext;rw[src_list Oq];ext;refine MQ Oq ?_;ext;done;refine k Oo agQ agR (((ly.pre qv).trans yh).pre vB)
end
end
variable{p:Th}{l:Nat}
section
abbrev ti(t:Th):Int:=(t.val:Int)+3
@[reducible]abbrev LQ:=List (Nat×List Int)
def Ot(f:α->β)(l:List α)(p:Array Nat):pick (l.map f) p=(pick l p).map f:=by
 cases l with
 |nil=>rfl
 |cons d r=>show(f' ((d::r).map f).length).map (λk=>((d::r).map f).getD (p.getD k 0) (f d))=((f' (d::r).length).map λk=>(d::r).getD (p.getD k 0) d).map f;rw[pT,aP];refine ES λk Y=> ?_;rw[sI,fh];show _=f ((d::r).getD (p.getD k 0) d);rw[sI];cases(d::r)[p.getD k 0]? <;>rfl
def agS{y:α}{l:List α}{p:Array Nat}(h:y∈pick l p):y∈l:=by
 cases l with
 |nil=>exact h
 |cons d r=>
  obtain⟨k,_,rfl⟩:=d4.mp h;rw[sI];cases e:(d::r)[p.getD k 0]? with
  |none=>exact dz
  |some z=>exact jL e
def agT(l:List α)(p:Array Nat):(pick l p).length=l.length:=by
 cases l with
 |nil=>rfl
 |cons d r=>exact(aP _).trans Ou
abbrev ym(q:LQ):LQ:=pick q (nY (q.map (·.2)))
abbrev tD(l:List (List Int)):List (List Int):=pick l (nY l)
abbrev vC(p:Nat×List Int):V×List Int:=(.ab p.1,p.2)
def agU(l:LQ):vU (l.map vC)=(ym l).map vC:=by show pick (l.map vC) (nY ((l.map vC).map (·.2)))=_;rw[pT];exact Ot vC l _
def agV(l:LQ):(ym l).map (·.2)=tD (l.map (·.2)):=(Ot (·.2) l _).symm
def Ov{y:Nat×List Int}{l:LQ}(h:y∈ym l):y∈l:=agS h
def agW(l:LQ):(ym l).length=l.length:=agT l _
abbrev qw(st:ah)(q:LQ):Prop:=∀p∈q,st[p.1]? =some (.list (p.2.map .int))
def qw.pre{st:ah}{q:LQ}(h:qw st q)(x:Pre st U):qw U q:=λp hp=>x _ _ (h p hp)
def agX{st:ah}{q:LQ}:∀{Q:List (V×List Int)->ah->Prop},qw st q->wp (qQ (q.map λp=>.ab p.1)) Q st=Q (q.map vC) st:=by
 induction q with
 |nil=>exact λY=>bC
 |cons p r ih=>
  intro Q h;have hI:dZ (p.2.map .int)=some p.2:=by have:=xR (λi:Int=>i) p.2;rwa [N1]at this
  show wp (bd (getL (.ab p.1)) λa=>match dZ a.2 with|some is=>bd (qQ (r.map λp=>.ab p.1)) λq=>rt ((V.ab p.1,is)::q)|none=>er) Q st=_;rw[aZ,d5 (h p dz)];rw[hI];rw[aZ,ih λx hx=>h x (dM _ hx)];exact bC
abbrev i'(lo:Nat)(st:ah)(l:Nat)(ll:List (List Int)):Prop:=∃q:LQ,st[l]? =some (.list (q.map λp=>.ab p.1))/\qw st q/\q.map (·.2)=ll/\lo<=l/\∀p∈q,lo<=p.1
def i'.pre{lo:Nat}{st:ah}{ll:List (List Int)}(h:i' lo st l ll)(x:Pre st U):i' lo U l ll:=h.imp λY h=>⟨x _ _ h.1,h.2.1.pre x,h.2.2⟩
def agY{st:ah}{q:LQ}{Q:V->ah->Prop}(hg:st[l]? =some (.list (q.map λp=>.ab p.1)))(hq:qw st q)(ba:q≠[])(hl:q.length<64){lo:Nat}(Ow:lo<=st.length)(GJ:∀p∈q,lo<=p.1)(k:∀r U,Pre st U->r=st.length->i' lo U r (tD (q.map (·.2)))->Q (.ab r) U):
 wp (fC .sorted [.ab l]) Q st:=by
 have hn:dZ (q.map λp=>.ab p.1)=none:=by
  cases q with
  |nil=>exact absurd rfl ba
  |cons p r=>rfl
 unfold fC;dsimp only;rw[aZ,xQ,aZ,d5 hg];show wp (match dZ (q.map λp=>.ab p.1)with|some _=>_|none=>_) Q st;rw[hn];rw[if_pos (by rw[aP];exact hl),agX hq,agU];refine cG (a8 (by rw[aP,aP,agW];(exact a9 af cc [.l az (.num 64)] rfl hl))) λr U P e L g=> ?_;refine k r U P e ⟨ym q,by rw[g,pT];rfl,λp hp=>P _ _ (hq p (Ov hp)),agV q,bq af av [.l af ak,.q av ak] rfl Ow e,λp hp=>GJ p (Ov hp)⟩
abbrev rP(k:Core):List (List Int):=(things.filter λt=>decide (k.ae t=t)).map λt=>sortI ((k.mem t).map ti)
section
variable{st:ah}
structure GL where
 q:LQ
 v:Option V
def agZ [hR:Rep c H st] (hm:∀t,(H.k.mem t).length<64){t0:Th}(vD:H.k.ae t0=t0)(k:∀r U,Pre st U->i' st.length U r (tD (rP H.k))->Q (.ab r) U):
 wp ((ip (n+40)).call (sz "Congruence",sz "classes") [.ab (c.ab .inst)]) Q st:=by
 walk_at "go";done;refine fm (c:=c) (a8 (by simp)) λfl au cL P1 O1 e1 g1=> ?_;done;refine ab0 (ys:=gM λt=>tm (H.k.ae t)) (λi (G:GL) U=>Pre st U/\U[fl]? =some (.list (G.q.map λp=>.ab p.1))/\qw U G.q/\(∀p∈G.q,fl<p.1)/\G.q.length<=i/\G.q.map (·.2)=((things.take i).filter λt=>decide (H.k.ae t=t)).map (λt=>sortI ((H.k.mem t).map ti))) (λG=>[(sz "self",some (.ab (c.ab .inst))),(sz "found",some (.ab fl)),(sz "t",G.v)])
  (g:=⟨[],none⟩) ⟨P1,g1,nofun,nofun,bG _,rfl⟩ (by show 7<bp;decide) (by rw[Mj];exact nv sS _) (λi G U h=>h.1 _ _ (hR.at' .ae)) ?_ ?_
 .intro i v G aH P hv hI re _;obtain⟨P2,g2,hq,hf,fQ,gR⟩:=hI;have dr:Rep c H aH:=hR.pre P2;rw[gM,fh,gV]at hv;obtain⟨t,ht,ev⟩:=hv;rw[<-ev];have hi:i<7:=(b9.mp ht).1;done;by_cases hr:H.k.ae t=t
  .rw[if_pos hr];done;rw[qa g2 rfl];ext;rw[Bn (f:=ti) (ys:=H.k.mem t) (dr.at' (.mem t)) (hm t)];ext;refine cG (a8 (by rw[aP,nF,aP];have:=hm t;(exact a9 af cc [.l az (.num 64)] rfl this))) λl3 aQ P3 e3 L3 g3=> ?_;ext;have Ox:=(b9.mp g2).1;refine vh (P3 _ _ g2) (by have:=hR.lt .inst;lia) (a8 (by rw[aP];(exact aG az cc [.l af ak,.l aK dm] rfl fQ hi))) ?_;done;done;refine re ⟨G.q++[(l3,sortI ((H.k.mem t).map ti))],some (tm t)⟩ _ ⟨(P2.trans P3).set e1 _,by rw[get_set (P3 _ _ g2),cD];rfl, ?_, ?_,by rw[bM];exact mQ fQ, ?_⟩
   .intro p hp;rcases dA.mp hp with hp|hp
    .rw[cv (by have:=hf p hp;(exact ln2 [.l az ak,.e ak af] rfl this))];exact P3 _ _ (hq p hp)
    .rw[bV]at hp;rw[hp];rw[cv (by simp only;(exact cO [.q af ak,.l bD ak,.e af av] rfl e3 Ox))];exact g3
   .intro p hp;rcases dA.mp hp with hp|hp
    .exact hf p hp
    .rw[bV]at hp;rw[hp];simp only;exact bq bD af [.q af ak,.l bD ak] rfl e3 Ox
   .rw[ta ht,cD,gR,if_pos (decide_eq_true hr)];rfl
  .rw[if_neg hr];done;done;exact re ⟨G.q,some (tm t)⟩ aH ⟨P2,g2,hq,hf,AP fQ,by rw[ta ht,gR,if_neg (λe=>hr (of_decide_eq_true e)),gv]⟩
 .intro G aH bz;obtain⟨P2,g2,hq,hf,fQ,gR⟩:=bz;rw[show(gM λt=>tm (H.k.ae t)).length=7 from rfl]at gR fQ;rw[show things.take 7=things from rfl]at gR;ext;done;refine agY g2 hq ?_ (by exact a9 az (.num 64) [.l af dm] rfl fQ) P2.len (λp hp=>by have:=hf p hp;(exact bq af av [.l af ak,.l aK av] rfl e1 this)) λr aQ P3 e3 h3=> ?_
  .intro eq;rw[eq]at gR;have:sortI ((H.k.mem t0).map ti)∈((things.filter λt=>decide (H.k.ae t=t)).map λt=>sortI ((H.k.mem t).map ti)):=xI (f:=λt=>sortI ((H.k.mem t).map ti)) (iK.mpr ⟨oJ t0,by simpa using vD⟩);rw[<-gR]at this;cases this
  .exact k r aQ (P2.trans P3) (by rw[gR]at h3;exact h3)
end
end
variable{fl:Nat}
section
abbrev oT(h:Th->Th):List V:=things.map λt=>ix (h t)
def Oy(t:Th):things[t.val]? =some t:=by revert t;decide
def kh{st:ah}{h:Th->Th}{Q:V->ah->Prop}(hg:st[l]? =some (.list (oT h))):wp (getItem (.ab l) (ix t)) Q st=Q (ix (h t)) st:=qf hg (by rw[oT,fh,Oy];rfl) rfl
def ag0{st:ah}{h:Th->Th}{Q:V->ah->Prop}(hg:st[l]? =some (.list (oT h))):wp (getItem (.ab l) (.int 0)) Q st=Q (ix (h 0)) st:=kh (t:=0) hg
def ag1{st:ah}{h:Th->Th}{Q:V->ah->Prop}(hg:st[l]? =some (.list (oT h))):wp (getItem (.ab l) (.int 1)) Q st=Q (ix (h 1)) st:=kh (t:=1) hg
def Oz{st:ah}{h:Th->Th}{Q:V->ah->Prop}(hg:st[l]? =some (.list (oT h))):wp (getItem (.ab l) (.int 5)) Q st=Q (ix (h 5)) st:=kh (t:=5) hg
def OA{st:ah}{h:Th->Th}{Q:V->ah->Prop}(hg:st[l]? =some (.list (oT h))):wp (getItem (.ab l) (.int 6)) Q st=Q (ix (h 6)) st:=kh (t:=6) hg
abbrev fv(h:Th->Th)(p:Th×Th):Th->Th:=λx=>if h x=mx (h p.1) (h p.2)then mn (h p.1) (h p.2)else h x
abbrev oU(ps:List (Th×Th))(h:Th->Th):Th->Th:=(ps++(if h 0=h 1 then[((3,4):Th×Th)]else[])).foldl fv h
abbrev f7(ps:List (Th×Th)):Nat->Th->Th
 |0=>id
 |i+1=>oU ps (f7 ps i)
abbrev jE(fs:List Fact):List (Th×Th):=(fs.filter (·.cT)).map λf=>(f.u,f.v)
abbrev bX(fs:List Fact):Th->Th:=oU (jE fs) (oU (jE fs) id)
structure BU where
 h:Nat
 u:Option V
 v:Option V
 lo:Option V
 hi:Option V
 lp:Option V
section
variable{st:ah}
def OB{fs:List Fact}(hf:st[fl]? =some (.list (fs.map fM)))(hl:fs.length<=100)(k:∀r U,Pre st U->U[r]? =some (.list (oT (bX fs)))->Q (.ab r) U):
 wp ((ip (n+40)).call (sz "",sz "_law_homes") [.ab fl]) Q st:=by
 walk_at "go";done;rw[FL (by decide)];ext;refine cG (xs:=oT id) (a8 (by decide)) λDh au P1 e1 L1 g1=> ?_;have oV:=P1 _ _ hf;done;rw[src_list oV];ext;refine vk (λf=>f.cT) (λf=>gZ (f.u,f.v)) oV (by unfold bp;(exact a9 az eT [.l af cK] rfl hl)) ?_ ?_
 .intro f P yn re;ext;by_cases ht:f.cT=true
  .rw[if_pos ht]at re⊢;ext;exact re
  .rw[if_neg ht]at re⊢;exact k_rt re
 have hff:=jU (·.cT) fs;have jo:(fs.filter (·.cT)).map (λf=>gZ (f.u,f.v))=(jE fs).map gZ:=by rw[jE,pT];rfl
 have jt:(jE fs).length<=100:=by unfold jE;rw[aP];exact aG ak cK [.l af cK,.l ak af] rfl hl hff
 rw[jo];generalize wy:jE fs=ps at*;refine cG (a8 (by rw[aP];(exact a9 af cc [.l af cK] rfl jt))) λpl aH P2 e2 L2 g2=> ?_;done;rw[FL (by decide)];ext;refine MU (λi (G:BU) U=>Pre aH U/\U[G.h]? =some (.list (oT (f7 ps i)))) (λG=>[(sz "facts",some (.ab fl)),(sz "home",some (.ab G.h)),(sz "u",G.u),(sz "v",G.v),(sz "pairs",some (.ab pl)),(sz "lap",G.lp),(sz "low",G.lo),(sz "high",G.hi)])
  (g:=⟨Dh,none,none,none,none,none⟩) ⟨.refl aH,P2 _ _ g1⟩ (by decide) ?_ ?_
 .intro i y0 G aQ P hv0;refine BU.rec (λh u v lo hi lp=> ?_) G;intro hI re _;dsimp only at hI;obtain⟨P3,g3⟩:=hI;have lr:=P3 _ _ g2;ext;done;rw[ag0 g3];ext;rw[ag1 g3];ext;have hex:∀(xs:List V),xs=(if f7 ps i 0=f7 ps i 1 then[((3,4):Th×Th)]else[]).map gZ->xs.length<=1/\(if f7 ps i 0=f7 ps i 1 then[((3,4):Th×Th)]else[]).length=xs.length:=by
   rintro xs rfl;split<;>simp
  refine aeJ (J:=λv b6=>∃l4,v= .ab l4/\Pre aQ b6/\b6[l4]? =some (.list ((if f7 ps i 0=f7 ps i 1 then[((3,4):Th×Th)]else[]).map gZ))) (λdK=> ?_) (λdK=> ?_) ?_
  .rw[if_pos dK];ext;exact cG (a8 (by simp)) λl4 b6 P4 e4 L4 g4=>⟨l4,rfl,P4,g4⟩
  .rw[if_neg dK];ext;exact cG (a8 (by simp)) λl4 b6 P4 e4 L4 g4=>⟨l4,rfl,P4,g4⟩
  intro _ b6 bz;obtain⟨l4,rfl,P4,g4⟩:=bz;rw[sY (P4 _ _ lr) g4];ext;have OC:ps.map gZ++(if f7 ps i 0=f7 ps i 1 then[((3,4):Th×Th)]else[]).map gZ=(ps++(if f7 ps i 0=f7 ps i 1 then[((3,4):Th×Th)]else[])).map gZ:=by rw[cD]
  rw[OC];have gR:oU ps (f7 ps i)=(ps++(if f7 ps i 0=f7 ps i 1 then[((3,4):Th×Th)]else[])).foldl fv (f7 ps i):=rfl;have fQ:(ps++(if f7 ps i 0=f7 ps i 1 then[((3,4):Th×Th)]else[])).length<=101:=by
   rw[bM];have:=(hex _ rfl).2;have:=(hex _ rfl).1
   exact bq cI (.num 101) [.l af cK,.e ak av,.l av aX] rfl jt (by assumption) this
  generalize(ps++(if f7 ps i 0=f7 ps i 1 then[((3,4):Th×Th)]else[]))=qs at gR fQ⊢;refine cG (a8 (by rw[aP];(exact a9 af cc [.l af (.num 101)] rfl fQ))) λl5 dE P5 e5 L5 g5=> ?_;ext;rw[src_list g5];ext;have oO:=P5 _ _ (P4 _ _ g3);have P35:=P3.trans (P4.trans P5);clear hex OC g4 lr;refine nD (ys:=qs) (f:=gZ) (λj (G:BU) U=>Pre dE U/\U[G.h]? =some (.list (oT ((qs.take j).foldl fv (f7 ps i))))) (λG=>[(sz "facts",some (.ab fl)),(sz "home",some (.ab G.h)),(sz "u",G.u),(sz "v",G.v),(sz "pairs",some (.ab pl)),(sz "lap",G.lp),(sz "low",G.lo),(sz "high",G.hi)])
   (g:=⟨h,u,v,lo,hi,_⟩) ⟨.refl dE,oO⟩ (by unfold bp;(exact a9 az eT [.l af (.num 101)] rfl fQ)) (λj G U h=>h.1 _ _ g5) ?_ ?_
  .clear re;intro j p G dF P hp;refine BU.rec (λh u v' lo hi lp=> ?_) G;intro hI re _;dsimp only at hI;obtain⟨P6,g6⟩:=hI;dsimp only at re;rw[take_snoc hp,tw]at re;simp only[NY,List.foldl_nil]at re;generalize(qs.take j).foldl fv (f7 ps i)=hh at g6 re;ext;done;rw[kh g6];ext;rw[kh g6];ext;refine cG (a8 (by simp)) λl7 jA P7 e7 L7 g7=> ?_;ext;rw[Bs g7];ext;refine cG (a8 (by simp)) λl8 i5 P8 e8 L8 g8=> ?_;ext;ext;have OD:=P8 _ _ (P7 _ _ g6);have P68:=P7.trans P8;done;ext;rw[src_list OD];ext;refine M0 (ys:=things) (f:=λt=>ix (hh t)) (λt=>ix (fv hh p t)) OD (by decide) ?_ ?_
   .intro t P ht re;ext;by_cases hc:hh t=mx (hh p.1) (hh p.2)
    .rw[if_pos hc];ext;rw[show fv hh p t=mn (hh p.1) (hh p.2)from if_pos hc]at re;exact re
    .rw[if_neg hc];ext;rw[show fv hh p t=hh t from if_neg hc]at re;exact re
   .refine cG (a8 (by rw[aP];decide)) λl9 gQ P9 e9 L9 g9=> ?_;done;exact re ⟨l9,_,_,_,_,_⟩ gQ ⟨(P6.trans P68).trans P9,g9⟩
  .intro G dF hI;obtain⟨P6,g6⟩:=hI;rw[jY,<-gR]at g6;ext;done;exact re ⟨G.h,_,_,_,_,_⟩ dF ⟨P35.trans P6,g6⟩
 .intro G aQ hI;obtain⟨P3,g3⟩:=hI;ext;done;refine k G.h aQ ((P1.trans P2).trans P3) ?_;rw[g3];unfold bX;rw[wy];rfl
end
end
variable{f:V→V→Option Bool}{b lv:Nat}
section
abbrev iM(a b:Th):Th×Th:=(mn a b,mx a b)
abbrev vE(fs:List Fact)(h:Th->Th):List (Th×Th):=(fs.filter λf=> !f.cT).map (λf=>iM (h f.u) (h f.v))++[iM (h 5) (h 6)]
abbrev fA(fs:List Fact)(u v:Th):Int:=if bX fs u=bX fs v then 1 else if iM (bX fs u) (bX fs v)∈vE fs (bX fs)then-1 else 0
abbrev yo(fs:List Fact):Bool:=decide (bX fs 5=bX fs 6)||fs.any λf=> !f.cT && decide (bX fs f.u=bX fs f.v)
@[reducible]abbrev LV:=List (Nat×List Fact)
abbrev OE(st:ah)(q:LV):Prop:=∀p∈q,st[p.1]? =some (.list (p.2.map fM))
@[reducible]abbrev PQ:=List (Nat×(Th×Th))
abbrev GO(st:ah)(q:PQ):Prop:=∀p∈q,st[p.1]? =some (.list [ix p.2.1,ix p.2.2])
def OF{xs ys:List V}:iQ f (some (.list xs)) (some (.list ys))=if xs.length=ys.length then gn f xs ys else some false:=rfl
def ag2{st:ah}{x:Th×Th}(h1:st[a]? =some (.list [ix x.1,ix x.2]))(h2:st[b]? =some (.list [ix y.1,ix y.2])):bZ 6 st (.ab a) (.ab b)=some (decide (x=y)):=by show iQ (bZ 5 st) st[a]? st[b]? =_;rw[h1,h2];show both (bZ 5 st (ix x.1) (ix y.1)) (both (bZ 5 st (ix x.2) (ix y.2)) (some true))=_;rw[FJ,FJ];show some (decide (x.1=y.1) && (decide (x.2=y.2) && true))=_;rw[C5,<-ag3];exact congrArg some (rJ Prod.ext_iff.symm)
def ag4{st:ah}(h2:st[b]? =some (.list [ix y.1,ix y.2])){q:PQ}:∀{Q:Bool->ah->Prop},GO st q->wp (nW (.ab b) (q.map λp=>.ab p.1)) Q st=Q (decide (y∈q.map (·.2))) st:=by
 induction q with
 |nil=>exact λY=>bC
 |cons p r ih=>
  intro Q h;show wp (bd (mH (.ab p.1) (.ab b)) λx=>bd (nW (.ab b) (r.map λp=>.ab p.1)) λz=>rt (x||z)) Q st=_;rw[aZ,Bc (ag2 (h p dz) h2),aZ,ih (λx hx=>h x (dM _ hx)),bC,<-afk];exact congrArg (λb=>Q b st) (rJ ⟨λe=>e.elim (λe=>e▸dz) (dM _),λe=>(bU.mp e).imp CR id⟩)
def OG{st:ah}{xs:List V}{Q:V->ah->Prop}(h1:st[a]? =some (.list xs))(h2:st[b]? =some (.list [])):wp (cmp .NotEq (.ab a) (.ab b)) Q st=Q (.bool (!xs.isEmpty)) st:=by
 refine xE ?_;show iQ (bZ 5 st) st[a]? st[b]? =_;rw[h1,h2];cases xs with
 |nil=>rfl
 |cons a r=>rfl
def ag5{st:ah}(n:Nat){x:List Int}:∀{y:List Int},x.length=y.length->gn (bZ n st) (x.map .int) (y.map .int)=some (decide (x=y)):=by
 induction x with
 |nil=>
  intro y h;cases y with
  |nil=>rfl
  |cons b t=>exact nomatch h
 |cons a r ih=>
  intro y h;cases y with
  |nil=>exact nomatch h
  |cons b t=>show both (bZ n st (.int a) (.int b)) (gn (bZ n st) (r.map .int) (t.map .int))=_;rw[rI,ih (iS h)];show some (decide (a=b) && decide (r=t))=_;rw[<-ag3];exact congrArg some (rJ ⟨λe=>e.1▸e.2▸rfl,λe=>zp e⟩)
def GP{st:ah}(n:Nat){x y:List Int}(h1:st[a]? =some (.list (x.map .int)))(h2:st[b]? =some (.list (y.map .int))):bZ (n+1) st (.ab a) (.ab b)=some (decide (x=y)):=by
 show iQ (bZ n st) st[a]? st[b]? =_;rw[h1,h2];rw[OF];simp only[aP];by_cases h:x.length=y.length
 .rw[if_pos h,ag5 n h]
 .rw[if_neg h,decide_eq_false (λe=>h (by rw[e]))]
section
variable{st:ah}
def OH{q:LV}(h:st[lv]? =some (.list (q.map λp=>.ab p.1)))(hq:OE st q)(hl:q.length<=100)(cW:(q.map (·.2)).flatten.length<=1000)(k:∀r U,Pre st U->st.length<=r->U[r]? =some (.list ((q.map (·.2)).flatten.map fM))->Q (.ab r) U):
 wp ((ip (n+20)).call (sz "",sz "_law_standing") [.ab lv]) Q st:=by
 walk_at "go";done;rw[src_list h];ext;refine xS (ys:=q) (f:=λp=>.ab p.1) (λi acc (_:Unit) U=>st=U/\acc=((q.take i).map (·.2)).flatten.map fM) (g:=()) ⟨rfl,rfl⟩ (by unfold bp;(exact a9 az eT [.l af cK] rfl hl)) (λi acc g U h'=>h'.1▸h) ?_ ?_
 .intro i p acc g U P hp hI re;rw[<-hI.1];have GR:=jL hp;have rD:p.2.length<=1000:=by
   have:p.2.length<=(q.map (·.2)).flatten.length:=by
    obtain⟨a,b,e⟩:=List.append_of_mem GR;rw[e];simp only[cD,eP,BV,ag6,bM];exact bq af (.add ak kx) [] rfl
   exact aG ak dI [.l af dI,.l ak af] rfl cW this
  have jt:((q.take i).map (·.2)).flatten.length<=1000:=by
   have:((q.take i).map (·.2)).flatten.length<=(q.map (·.2)).flatten.length:=by
    conv=>rhs;rw[<-BF i q]
    rw[cD,BV,bM];exact aG af cI [] rfl
   exact aG ak dI [.l af dI,.l ak af] rfl cW this
  ext;rw[src_list (hq p GR)];refine M0 (ys:=p.2) (f:=fM) fM (hq p GR) (by unfold bp;(exact a9 az eT [.l af dI] rfl rD)) ?_ ?_
  .intro f P hf re;ext;exact re
  .refine re (p.2.map fM) () st (by rw[hI.2,aP,aP];exact a8 (by exact aG (.add ak af) cc [.l af dI,.l ak dI] rfl rD jt)) ⟨rfl, ?_⟩;rw[hI.2,take_snoc hp,cD,BV,cD];exact congrArg _ (congrArg _ (gv _).symm)
 .intro acc _ U hI;rw[<-hI.1,hI.2,jY];refine cG (a8 (by rw[aP];(exact a9 af cc [.l af dI] rfl cW))) λr au P1 e1 L1 g1=> ?_;ext;exact k r au P1 (by exact aG ak af [.q af ak] rfl e1) g1
def OI{fs:List Fact}(hf:st[fl]? =some (.list (fs.map fM)))(hl:fs.length<=100)(k:∀U,Pre st U->Q (.int (fA fs u v)) U):
 wp ((ip (n+60)).call (sz "",sz "_law_truth") [.ab fl,ix u,ix v]) Q st:=by
 walk_at "go";done;refine OB hf hl λdp au P1 g1=> ?_;have oV:=P1 _ _ hf;unfold fA at k;generalize bX fs=h at*;done;rw[kh g1];ext;rw[kh g1];ext;by_cases hh:h u=h v
 .rw[if_pos hh]at k⊢;done;exact k au P1
 rw[if_neg hh]at k⊢;done;done;rw[kh g1];ext;rw[kh g1];ext;refine cG (a8 (by simp)) λl2 aH P2 e2 L2 g2=> ?_;ext;rw[Bs g2];ext;refine cG (a8 (by simp)) λbl aQ P3 e3 L3 g3=> ?_;ext;have qi:=P3 _ _ (P2 _ _ g1);have vc:=P3 _ _ (P2 _ _ oV);have vB:=P1.trans (P2.trans P3);done;ext;rw[src_list vc];ext;refine xS (ys:=fs) (f:=fM) (λi acc (q:PQ) U=>Pre aQ U/\GO U q/\acc=q.map (λp=>.ab p.1)/\q.map (·.2)=((fs.take i).filter λf=> !f.cT).map λf=>iM (h f.u) (h f.v)) (g:=[]) ⟨.refl aQ,nofun,rfl,rfl⟩ (by unfold bp;(exact a9 az eT [.l af cK] rfl hl)) (λi acc q U h=>h.1 _ _ vc) ?_ ?_
 .intro i f acc q b6 P yn hI re;obtain⟨P4,hq,ha,gR⟩:=hI;have g4:=P4 _ _ qi;have fQ:q.length<=100:=by
   have:=congrArg n7 gR;rw[aP,aP]at this;have h1:=jU (λf:Fact=> !f.cT) (fs.take i);have h2:=GS i fs;have h3:=vj i fs
   exact dC ak cK [.l af cK,.e ak av,.l av bo,.l bo af] rfl hl this h1 h3
  ext;have OJ:∀r:List V,r.length<=1->acc.length+r.length<=bH:=λr hr=>by rw[ha,aP];exact bx (mD fQ hr) (by decide)
  cases ht:f.cT with
  |true=>rw[if_neg (by simp)];exact re [] q b6 (OJ _ (dJ _)) ⟨P4,hq,by rw[ha,gv],by rw[ta yn,gR,if_neg (by rw[ht];exact pQ),gv]⟩
  |false=>
   rw[if_pos (by simp)];ext;rw[kh g4];ext;rw[kh g4];ext;refine cG (a8 (by simp)) λl5 dE P5 e5 L5 g5=> ?_;ext;rw[Bs g5];ext;refine cG (a8 (by simp)) λl6 dF P6 e6 L6 g6=> ?_;ext;refine re [.ab l6] (q++[(l6,iM (h f.u) (h f.v))]) dF (OJ _ (bG _)) ⟨(P4.trans P5).trans P6, ?_,by rw[ha,cD];rfl,by rw[ta yn,cD,gR,if_pos (by rw[ht];rfl)];rfl⟩;intro p hp;rcases dA.mp hp with hp|hp
   .exact P6 _ _ (P5 _ _ (hq p hp))
   .rw[bV.mp hp];exact g6
 intro acc q b6 bz;obtain⟨P4,hq,ha,gR⟩:=bz;rw[jY]at gR;rw[ha];have g4:=P4 _ _ qi;have fQ:q.length<=100:=by
  have:=congrArg n7 gR;rw[aP,aP]at this;have h1:=jU (λf:Fact=> !f.cT) fs
  exact bq ak cK [.l af cK,.e ak av,.l av af] rfl hl this h1
 refine cG (a8 (by rw[aP];(exact a9 af cc [.l af cK] rfl fQ))) λl5 dE P5 e5 L5 g5=> ?_;ext;rw[Oz (P5 _ _ g4)];ext;rw[OA (P5 _ _ g4)];ext;refine cG (a8 (by simp)) λl6 dF P6 e6 L6 g6=> ?_;ext;rw[Bs g6];ext;refine cG (a8 (by simp)) λl7 jA P7 e7 L7 g7=> ?_;ext;refine cG (a8 (by simp)) λl8 i5 P8 e8 L8 g8=> ?_;ext;have BW:=P6.trans (P7.trans P8);rw[sY (BW _ _ g5) g8];ext;have hap:(q.map λp=>V.ab p.1)++[V.ab l7]=(q++[(l7,iM (h 5) (h 6))]).map λp=>V.ab p.1:=by simp
 rw[hap];refine cG (a8 (by rw[aP,bM,fK];(exact a9 az cc [.l af cK] rfl fQ))) λl9 gQ P9 e9 L9 g9=> ?_;ext;have hq9:GO gQ (q++[(l7,iM (h 5) (h 6))]):=by
  intro p hp;rcases dA.mp hp with hp|hp
  .exact P9 _ _ (BW _ _ (P5 _ _ (hq p hp)))
  .rw[bV]at hp;rw[hp];exact P9 _ _ (P8 _ _ g7)
 have oO:gQ[bl]? =some (.list [ix (iM (h u) (h v)).1,ix (iM (h u) (h v)).2]):=P9 _ _ (BW _ _ (P5 _ _ (P4 _ _ g3)));have ag7:(q++[(l7,iM (h 5) (h 6))]).map (·.2)=vE fs h:=by rw[cD,gR];rfl
 done;have hco:∀{R:Bool->ah->Prop},wp (contains (.ab bl) (.ab l9)) R gQ=R (decide (iM (h u) (h v)∈vE fs h)) gQ:=by intro R;exact(fI (gN g9)).trans ((ag4 oO hq9).trans (congrArg (λl=>R (decide (iM (h u) (h v)∈l)) gQ) ag7))
 rw[hco];ext;have PF:=vB.trans (P4.trans (P5.trans (BW.trans P9)));by_cases hm:iM (h u) (h v)∈vE fs h
 .rw[if_pos hm]at k⊢;ext;exact k gQ PF
 .rw[if_neg hm]at k⊢;ext;exact k gQ PF
end
end
variable{t:aW}{rl:Nat}
section
def any_filter{p:α->Bool}{v:V}(l:List α):(!((l.filter p).map λY=>v).isEmpty)=l.any p:=by
 induction l with
 |nil=>exact rfl
 |cons a r ih=>
  rw[u3,U7];cases h:p a with
  |true=>rfl
  |false=>simpa using ih
def OK(l:List Int):dZ (l.map .int)=some l:=by
 have:=xR (λi:Int=>i) l
 rwa [N1]at this
abbrev jF(fs:List Fact)(l:List Int):List Fact:=fs.filter λf=>decide ((f.m:Int)∈l)
variable{a al i j:Int}
section
variable{st:ah}
def ag8{fs:List Fact}(hf:st[fl]? =some (.list (fs.map fM)))(hl:fs.length<=100)(k:∀U,Pre st U->Q (.bool (yo fs)) U):
 wp ((ip (n+60)).call (sz "",sz "_law_clashes") [.ab fl]) Q st:=by
 walk_at "go";done;refine OB hf hl λdp au P1 g1=> ?_;have oV:=P1 _ _ hf;unfold yo at k;generalize bX fs=h at*;done;rw[Oz g1];ext;rw[OA g1];ext;by_cases hh:h 5=h 6
 .rw[if_pos hh];simp only[hh,decide_true,Bool.true_or]at k⊢;exact k au P1
 rw[if_neg hh];simp only[hh,decide_false,Bool.false_or]at k;ext;rw[src_list oV];ext;refine vk (λf=> !f.cT && decide (h f.u=h f.v)) (λY=>.int 1) oV (by unfold bp;(exact a9 az eT [.l af cK] rfl hl)) ?_ ?_
 .intro f P yn re;ext;cases ht:f.cT with
  |true=>rw[ht]at re;rw[if_neg (by simp)];ext;exact re
  |false=>
   rw[ht]at re;rw[if_pos (by simp)];ext;rw[kh g1];ext;rw[kh g1];ext;by_cases hu:h f.u=h f.v
   .rw[decide_eq_true hu]at re;rw[if_pos hu];ext;exact re
   .rw[decide_eq_false hu]at re;rw[if_neg hu];ext;exact re
 refine cG (a8 (by rw[aP];have h1:=jU (λf:Fact=> !f.cT && decide (h f.u=h f.v)) fs;(exact aG ak cc [.l af cK,.l ak af] rfl hl h1))) λl2 aH P2 e2 L2 g2=> ?_;ext;refine cG (a8 (by simp)) λl3 aQ P3 e3 L3 g3=> ?_;ext;rw[OG (P3 _ _ g2) g3,any_filter];exact k aQ (P1.trans (P2.trans P3))
def ag9 [hR:Rep c H st] (hU:vq H.k){f:Nat}{l:List Int}{fs:List Fact}{tr:Int}(hf:f<bp)(h:vy H.k f t=some l)
 (h1:H.k.aA t=some none->H.k.ae (aV t).1=H.k.ae (aV t).2) (h2:∀s,H.k.aA t=some (some s)->H.k.ae (aV t).1=H.k.ae s.1/\H.k.ae (aV t).2=H.k.ae s.2.1)
 (yp:st[fl]? =some (.list (fs.map fM))) (hl:fs.length<=100) (tn:l.length<30) (hsr:pj l=true) (k7:(jF fs l).length=l.length) (kj:fA (jF fs l) (aV t).1 (aV t).2=tr)
 (k:∀U,Pre st U->Q (.bool true) U):wp ((ip (n+120)).call (sz "",sz "_law_is_enough") [.ab (c.ab .inst),.ab fl,bJ t,gZ (aV t),.int tr]) Q st:=by
 walk_at "go";done;refine agg hU hf h h1 h2 λrl au P1 g1=> ?_;have oV:=P1 _ _ yp;done;rw[src_list oV];ext;refine vk (λf=>decide ((f.m:Int)∈l)) fM oV (by unfold bp;(exact a9 az eT [.l af cK] rfl hl)) ?_ ?_
 .intro f P yn re;ext;by_cases hm:(f.m:Int)∈l
  .rw[decide_eq_true hm]at re;rw[if_pos hm];ext;exact re
  .rw[decide_eq_false hm]at re;rw[if_neg hm];ext;exact re
 have xY:=jU (λf:Fact=>decide ((f.m:Int)∈l)) fs;rw[show(fs.filter λf=>decide ((f.m:Int)∈l))=jF fs l from rfl]at xY⊢;refine cG (a8 (by rw[aP];(exact aG ak cc [.l az nR,.e ak af] rfl tn k7))) λsl aH P2 e2 L2 g2=> ?_;done;refine aea (P2 _ _ g1) (OK _) hsr ?_;refine cG (a8 (by rw[aP];(exact a9 af cc [.l az nR] rfl tn))) λl3 aQ P3 e3 L3 g3=> ?_;ext;have qi:=P3 _ _ (P2 _ _ g1);have lr:=P3 _ _ g2;rw[xE (GP 5 qi g3)];ext;rw[if_neg (by simp)];ext;rw[eK lr];ext;rw[eK qi];ext;rw[if_neg (by rw[aP,k7];simp)];done;done;refine OI lr (by exact aG ak cK [.l az nR,.e ak af] rfl tn k7) λb6 P4=> ?_;rw[kj];ext;rw[decide_eq_true rfl];exact k b6 (P1.trans (P2.trans (P3.trans P4)))
abbrev gS(a:Int)(rl:Nat)(al:Int):List (V×V):=[(.str (sz "at"),.int a),(.str (sz "row"),.ab rl),(.str (sz "all"),.int al)]
def BX:eB (.str (sz x)) (gS a rl al)=true:=rfl
def vF{st:ah}{cl:Nat}(h:st[cl]? =some (.dict (gS a rl al) ep)){Q:V->ah->Prop}:wp (getItem (.ab cl) (.str (sz "at"))) Q st=Q (.int a) st:=ny h BX rfl
def OL{st:ah}{cl:Nat}(h:st[cl]? =some (.dict (gS a rl al) ep)){Q:V->ah->Prop}:wp (getItem (.ab cl) (.str (sz "row"))) Q st=Q (.ab rl) st:=ny h BX rfl
def ag'{st:ah}{cl:Nat}(h:st[cl]? =some (.dict (gS a rl al) ep)){Q:V->ah->Prop}:wp (getItem (.ab cl) (.str (sz "all"))) Q st=Q (.int al) st:=ny h BX rfl
def BY{st:ah}{Q:V->ah->Prop}(h:0<j)(k:∀r,0<=r->r<j->Q (.int r) st):wp (binop .Mod (.int i) (.int j)) Q st:=by show wp (if¬j=0 then rt (.int (Int.fmod i j))else er) Q st;rw[if_pos (Int.ne_of_gt h),Int.fmod_eq_emod_of_nonneg _ (wo h)];exact k _ (Int.emod_nonneg _ (Int.ne_of_gt h)) (Int.emod_lt_of_pos _ h)
def aha{st:ah}{Q:V->ah->Prop}(h: -big<=i/\i<=big/\-big<=j/\j<=big):wp (binop .Mult (.int i) (.int j)) Q st=Q (.int (i*j)) st:=by show wp (if-big<=i/\i<=big/\-big<=j/\j<=big then rt (.int (i*j))else er) Q st=_;rw[if_pos h,bC]
def yq(h:0<=i/\i<=1000000000): -big<=i/\i<=big:=⟨k5 (by decide) h.1,k5 h.2 (by decide)⟩
def GW{st:ah}{Q:V->ah->Prop}(h:0<=i/\i<=1000000000)(h':0<=j/\j<=1000000000):wp (binop .Mult (.int i) (.int j)) Q st=Q (.int (i*j)) st:=aha ⟨(yq h).1,(yq h).2,yq h'⟩
def ahb{st:ah}{Q:V->ah->Prop}(h:0<=i/\i<=1000000000):wp (binop .FloorDiv (.int i) (.int 2)) Q st=Q (.int (Ia i 2)) st:=by show wp (if¬((2:Int)=0\/i< -big\/big<i)then rt (.int (Ia i 2))else er) Q st=_;rw[if_pos λe=>e.elim (by decide) λe=>e.elim (zA.mpr (yq h).1) (zA.mpr (yq h).2),bC]
def OM{cl:Nat}{row:List Int}{many:Int}(hc:st[cl]? =some (.dict (gS a rl al) ep))(hr:st[rl]? =some (.list (row.map .int)))(ba:rl≠cl)(ha:0<=a/\a<=10000)(ox:0<=al/\al<=1000)(hm:0<many)
 (k:∀i,0<=i->i<many->Q (.int i) (st.set cl (.dict (gS (a+1) rl al) ep))):wp ((ip (n+30)).call (sz "",sz "_law_turn") [.ab cl,.int many]) Q st:=by
 walk_at "go";done;rw[vF hc];ext;rw[rL hc BX (x:=.int a) rfl];ext;have hs:ec (gS a rl al) (.str (sz "at")) (.int (a+1))=gS (a+1) rl al:=rfl;rw[hs];have rQ:(gj st cl (.dict (gS (a+1) rl al) ep))[cl]? =some (.dict (gS (a+1) rl al) ep):=get_set hc;have qx:(gj st cl (.dict (gS (a+1) rl al) ep))[rl]? =some (.list (row.map .int)):=by rw[cv ba];exact hr
 done;rw[vF rQ];ext;rw[OL rQ];ext;rw[eK qx];ext;by_cases h:a+1<=(row.map V.int).length
 .rw[if_pos h];done;rw[OL rQ];ext;rw[vF rQ];ext;rw[aP]at h;have cB:a.toNat<row.length:=(Int.toNat_lt ha.1).mpr (Int.lt_of_add_one_le h);rw[qf (j:=a.toNat) (v:=.int row[a.toNat]) qx (by rw[fh,dS cB];rfl) ((abJ a 1).trans (Ui ha.1).symm)];ext;exact BY hm k
 .rw[if_neg h];done;done;have jB:0<=a+1/\a+1<=10001:=⟨yr ha.1 (by decide),ahc ha.2 1⟩;have tv:0<=a+1/\a+1<=1000000000:=⟨jB.1,k5 jB.2 (by decide)⟩;have ON:(a+1)*(a+1)<=10001*10001:=Int.mul_le_mul jB.2 jB.2 jB.1 (by decide);have OO:0<=(a+1)*(a+1):=OP jB.1 jB.1;rw[vF rQ];ext;rw[vF rQ];ext;rw[GW tv tv];ext;rw[GW ⟨OO,k5 ON (by decide)⟩ (by decide)];ext;rw[vF rQ];ext;rw[GW tv (by decide)];ext;rw[ag' rQ];ext;rw[ahb ⟨yr (yr (OP OO (by decide)) (OP jB.1 (by decide))) ox.1,k5 (ahd (ahd (ahe ON (by decide)) (ahe jB.2 (by decide))) ox.2) (by decide)⟩];ext;exact BY hm k
end
end
variable{q:LV}{GX sd tl:Nat}{H':aB}{c':ck}
section
abbrev BZ(r:Nat)(c:ck)(H:aB):V:=.tup [.ab r,.int (c.iF.length:Int),.int (c.iG.length:Int),.int (H.aN.length:Int),.none,.int (H.bt.length:Int)]
def ahf{st:ah}:∀{q q':LQ},qw st q->qw st q'->q.map (·.2)=q'.map (·.2)->gn (bZ 4 st) (q.map λp=>.ab p.1) (q'.map λp=>.ab p.1)=some true:=by
 intro q;induction q with
 |nil=>intro q' _ _ h;cases q' with|nil=>rfl|cons=>cases h
 |cons p r ih=>
  intro q' h1 h2 h;cases q' with
  |nil=>cases h
  |cons p' r'=>
  obtain⟨e,h⟩:=zp h;rw[eP,eP,HZ,GP 3 (h1 p dz) (h2 p' dz),ih (λx hx=>h1 x (dM _ hx)) (λx hx=>h2 x (dM _ hx)) h,Rt];exact congrArg (λb=>some (b && true)) (decide_eq_true e)
variable{ll:List (List Int)}
def ahg{lo:Nat}{st:ah}(h1:i' lo st a ll)(h2:i' GX st b ll):bZ 5 st (.ab a) (.ab b)=some true:=by
 obtain⟨q,g,hq,e,_⟩:=h1;obtain⟨q',g',CX,e',_⟩:=h2;show iQ (bZ 4 st) st[a]? st[b]? =_;rw[g,g',OF];rw[if_pos (by have:=congrArg n7 (e.trans e'.symm);simpa using this),ahf hq CX (e.trans e'.symm)]
def aj3{st:ah}(n:Nat)(xs ys:List V):bZ (n+1) st (.tup xs) (.tup ys)=if xs.length=ys.length then gn (bZ n st) xs ys else none:=rfl
def OQ{st:ah}(n:Nat):bZ n st .none .none=some true:=by cases n<;>rfl
def ja{a b:V}{xs ys:List V}(h:f a b=some true)(k:gn f xs ys=some true):gn f (a::xs) (b::ys)=some true:=by rw[HZ,h,k];rfl
def eqT{st:ah}{n:Nat}{xs ys:List V}(h:xs.length=ys.length)(k:gn (bZ n st) xs ys=some true):bZ (n+1) st (.tup xs) (.tup ys)=some true:=(if_pos h).trans k
def oW{st:ah}{n:Nat}{i:Int}:bZ n st (.int i) (.int i)=some true:=(rI ..).trans (congrArg some (decide_eq_true rfl))
def ahh{lo:Nat}{st:ah}{c c':ck}{H:aB}(h1:i' lo st a ll)(h2:i' GX st b ll)(hu:c'.iF=c.iF)(ht:c'.iG=c.iG)(hq:H'.aN=H.aN)(hm:H'.bt=H.bt):
 bZ 6 st (BZ a c' H') (BZ b c H)=some true:=by
 unfold BZ;rw[hu,ht,hq,hm];exact eqT rfl (ja (ahg h1 h2) (ja oW (ja oW (ja oW (ja (OQ _) (ja oW rfl))))))
def i'.keep{lo:Nat}{st U:ah}(h:i' lo st l ll)(hg:∀k,lo<=k->k<st.length->U[k]? =st[k]?):i' lo U l ll:=by
 obtain⟨q,a,b,c,d,e⟩:=h;exact⟨q,by rw[hg l d (b9.mp a).1];exact a,λp hp=>by rw[hg p.1 (e p hp) (b9.mp (b p hp)).1];exact b p hp,c,d,e⟩
abbrev nK(lv tl:Nat):List (V×V):=[(.str (sz "levels"),.ab lv),(.str (sz "told"),.ab tl)]
@[reducible]abbrev ST:=List (aW×(Int×Nat))
abbrev gB(x:Int×Nat):V:=.tup [.int x.1,.int (x.2:Int)]
structure gC(c:ck)(st:ah)(sd lv tl:Nat)(q:LV)(sT:ST):Prop where
 d:∃ep,st[sd]? =some (.dict (nK lv tl) ep)
 l:st[lv]? =some (.list (q.map λp=>.ab p.1))
 ql:OE st q
 t:∃ep,st[tl]? =some (.dict (enc bJ gB sT) (some ep))
 od:Off c st sd
 ol:Off c st lv
 ot:Off c st tl
 oq:∀p∈q,Off c st p.1
 n1:sd≠lv
 n2:sd≠tl
 n3:lv≠tl
 n4:∀p∈q,p.1≠sd/\p.1≠lv/\p.1≠tl
 nq:(q.map (·.1)).Nodup
 nt:(sT.map (·.1)).Nodup
section
variable{st:ah}{sT:ST}
def gC.move(h:gC c st sd lv tl q sT)(hg:∀l,Off c st l->U[l]? =st[l]?)(ho:∀l,Off c st l->Off c' U l):gC c' U sd lv tl q sT where
 d:=h.d.imp λY g=>by rw[hg _ h.od];exact g
 l:=by rw[hg _ h.ol];exact h.l
 ql:=λp hp=>by rw[hg _ (h.oq p hp)];exact h.ql p hp
 t:=h.t.imp λY g=>by rw[hg _ h.ot];exact g
 od:=ho _ h.od
 ol:=ho _ h.ol
 ot:=ho _ h.ot
 oq:=λp hp=>ho _ (h.oq p hp)
 n1:=h.n1
 n2:=h.n2
 n3:=h.n3
 n4:=h.n4
 nq:=h.nq
 nt:=h.nt
def gC.pre(h:gC c st sd lv tl q sT)(x:Pre st U):gC c U sd lv tl q sT:=h.move (λl o=>by rw[dS o.lt];exact x l _ (dS o.lt)) (λl o=>o.pre x)
def gC.ev(h:gC c st sd lv tl q sT)(x:Ev c st c' U):gC c' U sd lv tl q sT:=h.move (λl o=>x.get l o) (λl o=>x.off o)
def B0:eB (.str (sz x)) (nK lv tl)=true:=rfl
def qy(h:gC c st sd lv tl q sT){Q:V->ah->Prop}:wp (getItem (.ab sd) (.str (sz "levels"))) Q st=Q (.ab lv) st:=by
 obtain⟨ep,g⟩:=h.d;exact ny g B0 rfl
def tE(h:gC c st sd lv tl q sT){Q:V->ah->Prop}:wp (getItem (.ab sd) (.str (sz "told"))) Q st=Q (.ab tl) st:=by
 obtain⟨ep,g⟩:=h.d;exact ny g B0 rfl
def OS(h:gC c st sd lv tl q sT){Q:Bool->ah->Prop}:wp (contains (bJ t) (.ab tl)) Q st=Q (lk sT t).isSome st:=by
 obtain⟨ep,g⟩:=h.t;rw[u9 g (oI t) (nv oI _),jX mh,Mn]
def GY(h:gC c st sd lv tl q sT){x:Int×Nat}(hx:lk sT t=some x){Q:V->ah->Prop}:wp (getItem (.ab tl) (bJ t)) Q st=Q (gB x) st:=by
 obtain⟨ep,g⟩:=h.t;exact ny g (sU ..) (by rw[jX mh,hx];rfl)
structure gD(tl:Nat)(c:ck)(st:ah)(c':ck)(U:ah):Prop where
 get:∀l,Off c st l->l≠tl->U[l]? =st[l]?
 off:∀l,Off c st l->Off c' U l
 inst:c'.ab .inst=c.ab .inst
def gD.of(x:Ev c st c' U):gD tl c st c' U:=⟨λl o Y=>x.get l o,λl o=>x.off o,x.inst⟩
def gD.B4(x:Pre st U):gD tl c st c U:=.of (.nr x)
def gD.trans{xD:ck}(x:gD tl c st c' U)(y:gD tl c' U xD oD):gD tl c st xD oD:=⟨λl o h=>(y.get l (x.off l o) h).trans (x.get l o h),λl o=>y.off l (x.off l o),y.inst.trans x.inst⟩
end
section
variable{st:ah}{sT:ST}
def OT [hR:Rep c H st] (hm:∀t,(H.k.mem t).length<64){t0:Th}(vD:H.k.ae t0=t0)(k:∀r U,Pre st U->i' st.length U r (tD (rP H.k))->Q (BZ r c H) U):
 wp ((ip (n+60)).call (sz "",sz "_law_shape") [.ab (c.ab .inst)]) Q st:=by
 walk_at "go";done;refine agZ hm vD λr au P1 h1=> ?_;have cL:Rep c H au:=hR.pre P1;ext;have g1:_=some (O.dict _ _):=cL.at' .up;have g2:_=some (O.dict _ _):=cL.at' .table;have g3:_=some (O.list _):=cL.at' .aN;have g4:_=some (O.list _):=cL.at' .bt;rw[MJ g1];ext;rw[MJ g2];ext;rw[eK g3];ext;refine agh ?_;ext;rw[eK g4];ext;simp only[encl,aP];exact k r au P1 h1
def ahi(hR:Rep c H st)(h:gC c st sd lv tl q sT){x:Int×Nat}(hl:sT.length<=100){R:Unit->ah->Prop}(k:∀U,Rep c H U->gC c U sd lv tl q (ls sT t x)->gD tl c st c U->R () U):wp (eU (.ab tl) (bJ t) (gB x)) R st:=by
 obtain⟨ep,g⟩:=h.t;have key:∀dY,R () (st.set tl (.dict (enc bJ gB (ls sT t x)) (some dY))):=by
  intro dY;refine k _ (hR.set h.ot _) ?_ ⟨λl o hn=>cv hn,λl o=>o.set,rfl⟩;refine{d:= ?_,l:= ?_,ql:= ?_,t:=⟨dY,get_set g⟩,od:=h.od.set,ol:=h.ol.set,ot:=h.ot.set,oq:=λp hp=>(h.oq p hp).set,n1:=h.n1,n2:=h.n2,n3:=h.n3,n4:=h.n4,nq:=h.nq,nt:=xJ _ _ _ h.nt}
  .obtain⟨e,g2⟩:=h.d;exact⟨e,by rw[cv h.n2];exact g2⟩
  .rw[cv h.n3];exact h.l
  .intro p hp;rw[cv (h.n4 p hp).2.2];exact h.ql p hp
 cases e:bL (enc bJ gB sT) (bJ t)with
 |some y=>rw[rL g (sU ..) e,xG mh];exact key ep
 |none=>rw[qc g (sU ..) e (a8 (by rw[encl];(exact a9 az cc [.l af cK] rfl hl))),<-Mr e,xG mh];exact key (ep+1)
end
end
variable{sT:ST}
section
abbrev sgn:Told->Int|none=>1|some _=> -1
def ahj{st:ah}(n:Nat)(v:Told):bZ (n+2) st (gL v) (gL v)=some true:=by
 cases v with
 |none=>exact eqT rfl (ja oW (ja (OQ _) rfl))
 |some s=>exact eqT rfl (ja oW (ja (eqT rfl (ja oW (ja oW (ja oW rfl)))) rfl))
def ahk{K:List (aW×Told)}(hn:(K.map (·.1)).Nodup)(hf:∀v,f (gL v) (gL v)=some true)(l:List (aW×Told)):(∀p∈l,p∈K)->mG f (enc bJ gL K) (enc bJ gL l)=some true:=by
 induction l with
 |nil=>intro _;exact rfl
 |cons p r ih=>
  intro h;show(match bL (enc bJ gL K) (bJ p.1)with|none=>some false|some y=>both (f (gL p.2) y) (mG f (enc bJ gL K) (enc bJ gL r)))=_;rw[jX mh,xH hn (h p dz),(ih λx hx=>h x (dM _ hx))];show both (f _ _) _=_;rw[hf];rfl
def ahl{st:ah}{K:List (aW×Told)}{e:Option Nat}(h1:st[a]? =some (.dict (enc bJ gL K) e))(h2:st[b]? =some (.dict (enc bJ gL K) e'))(hn:(K.map (·.1)).Nodup):bZ 5 st (.ab a) (.ab b)=some true:=by show iQ (bZ 4 st) st[a]? st[b]? =_;rw[h1,h2];unfold iQ;simp only[nv oI];exact ahk hn (ahj 2) K λp hp=>hp
def OU{H:aB}(h:(H.k.aA t).isSome=true):bw H t=H:=by unfold bw;rw[if_pos h]
def ahm(H:aB)(t:aW):bw (bw H t) t=bw H t:=by
 by_cases h:(H.k.aA t).isSome=true
 .have:bw H t=H:=by unfold bw;rw[if_pos h]
  rw[this,this]
 .cases hv:lu H.k t with
  |none=>
   have:bw H t=H:=by unfold bw;rw[if_neg h,hv]
   rw[this,this]
  |some v=>exact OU (by unfold bw;rw[if_neg h,hv];simp[bK])
def yt(H:aB)(t:aW):(bw H t).k.ae=H.k.ae:=by
 unfold bw;split
 .rfl
 .split<;>rfl
def OV(H:aB)(t:aW):(bw H t).k.mem=H.k.mem:=by
 unfold bw;split
 .rfl
 .split<;>rfl
def GZ(H:aB)(t:aW):(bw H t).aN=H.aN:=by
 unfold bw;split
 .rfl
 .split<;>rfl
def B7(H:aB)(t:aW):(bw H t).bt=H.bt:=by
 unfold bw;split
 .rfl
 .split<;>rfl
structure G0(k:Core)(fs:List Fact)(t:aW)(tr:Int):Prop where
 up:vq k
 h1:k.aA t=some none->k.ae (aV t).1=k.ae (aV t).2
 h2:∀s,k.aA t=some (some s)->k.ae (aV t).1=k.ae s.1/\k.ae (aV t).2=k.ae s.2.1
 en:∃f l,f<bp/\vy k f t=some l/\l.length<30/\pj l=true/\(jF fs l).length=l.length/\fA (jF fs l) (aV t).1 (aV t).2=tr
abbrev fR(q:LV)(sT:ST)(t:aW):ST:=if lk sT t=none/\fA (q.map (·.2)).flatten (aV t).1 (aV t).2≠0 then ls sT t (fA (q.map (·.2)).flatten (aV t).1 (aV t).2,q.length-1)else sT
section
variable{st:ah}
def ahn [hR:Rep c H st] (hS:gC c st sd lv tl q sT)(hq1:1<=q.length)(hq:q.length<=100)(yp:(q.map (·.2)).flatten.length<=100)(tF:sT.length<=100)
 (hm:∀t,(H.k.mem t).length<64) {t0:Th} (vD:H.k.ae t0=t0) (hlen:∀t,(H.k.aD t).length<1000) (hN:H.bk.length+2<=2000) (hT:H.b.cN.length+H.aU.length+2<=2000)
 (hA:((bw H t).k.aA t).isSome=(lk (fR q sT t) t).isSome)
 (hB:∀v,(bw H t).k.aA t=some v->∃x,lk (fR q sT t) t=some x/\x.1=sgn v/\(bw H t).bk.count t=1)
 (hC:lk sT t=none->∀v,(bw H t).k.aA t=some v->G0 (bw H t).k (q.map (·.2)).flatten t (fA (q.map (·.2)).flatten (aV t).1 (aV t).2))
 (k:∀c' U,Rep c' (bw H t) U->gC c' U sd lv tl q (fR q sT t)->gD tl c st c' U->Q (.bool true) U):
 wp ((ip (n+200)).call (sz "",sz "_law_is_told") [.ab (c.ab .inst),.ab sd,bJ t,gZ (aV t)]) Q st:=by
 walk_at "go";done;rw[qy hS];ext;refine OH hS.l hS.ql hq (by exact a9 af dI [.l af cK] rfl yp) λfl au P1 cW g1=> ?_;have cL:Rep c H au:=hR.pre P1;ext;refine OT hm vD λshl aH P2 h2=> ?_;have dr:Rep c H aH:=cL.pre P2;have nf:=(hS.pre P1).pre P2;have g2:=P2 _ _ g1;done;rw[tE nf];ext;rw[OS nf];done;refine OI g2 yp λaQ P3=> ?_;have cU:Rep c H aQ:=dr.pre P3;have vG:=nf.pre P3;have vB:=P1.trans (P2.trans P3);have g3:=P3 _ _ g2;have h3:=h2.pre P3;generalize kj:fA (q.map (·.2)).flatten (aV t).1 (aV t).2=tr at*;ext;refine MP (λU=>Rep c H U/\gC c U sd lv tl q (fR q sT t)/\gD tl c aQ c U) ?_ ?_
 .ext;have OW:((!(lk sT t).isSome)=true/\¬tr=0)<->(lk sT t=none/\fA (q.map (·.2)).flatten (aV t).1 (aV t).2≠0):=by rw[kj];simp
  by_cases hc:((!(lk sT t).isSome)=true/\¬tr=0)
  .rw[if_pos hc];done;rw[qy vG];ext;rw[eK vG.l];ext;rw[tE vG];ext;rw[show V.tup [V.int tr,V.int (((q.map λp=>V.ab p.1).length:Int)-1)]=gB (tr,q.length-1) by unfold gB;rw[aP];simp only;congr 3;rw[show((q.length:Nat):Int)-1=((q.length-1:Nat):Int)from(Int.ofNat_sub hq1).symm]];refine ahi cU vG tF λU jC sH B8=> ?_;done;exact⟨by trivial,by trivial,jC,by unfold fR;rw[if_pos (OW.mp hc),kj];exact sH,B8⟩
  .rw[if_neg hc];exact⟨cU,by unfold fR;rw[if_neg (λh=>hc (OW.mpr h))];exact vG,.of (.refl c aQ)⟩
 intro b6 bz;obtain⟨ft,OX,fN⟩:=bz;have aj4:=hR.lt;have aj5:=vB.len;have OY:=hS.ot.lt;have h4:i' au.length b6 shl (tD (rP H.k)):=h3.keep λk hk sb=>fN.get k ⟨sb,λr e=>by have:=hR.lt r;have:=P1.len;(exact o9 [.l af ak,.q av ak,.l bD bo,.l bo af] rfl hk e (by assumption) this),λe=>by have:=hR.lt .inst;have:=P1.len;lia⟩ (by have:=P1.len;(exact o9 [.l az ak,.l av bo,.l ak av,.e bo af] rfl OY hk this));have G4:Off c b6 fl:=fN.off fl ⟨(b9.mp g3).1,λr e=>by have:=hR.lt r;(exact cO [.l af ak,.q av ak,.l bD af] rfl cW e this),λe=>by have:=hR.lt .inst;lia⟩;have g4:b6[fl]? =some (.list ((q.map (·.2)).flatten.map fM)):=by rw[fN.get fl ⟨(b9.mp g3).1,λr e=>by have:=hR.lt r;(exact cO [.l af ak,.q av ak,.l bD af] rfl cW e this),λe=>by have:=hR.lt .inst;lia⟩ (by exact cO [.l af ak,.l bD af,.e ak av] rfl cW OY)];exact g3
 have OZ:gD tl c st c b6:=(gD.B4 vB).trans fN;generalize fR q sT t=km at*;have aj6:(!(lk sT t).isSome)=decide (lk sT t=none):=by cases lk sT t<;>rfl
 clear hS nf vG cL dr cU g1 g2 g3 h2 h3 fN;done;refine Gl hlen (by exact a9 az cc [.l (.add af dw) d9] rfl hN) (by exact aG (.add cI aX) cc [.l (.add cI dw) d9] rfl hT) λc5 dE O0 Y gk fu=> ?_;have h5:i' au.length dE shl (tD (rP H.k)):=h4.keep λk hk sb=>fu.get k ⟨sb,λr e=>by have:=hR.lt r;have:=P1.len;(exact o9 [.l af ak,.q av ak,.l bD bo,.l bo af] rfl hk e (by assumption) this),λe=>by have:=hR.lt .inst;have:=P1.len;lia⟩;have O8:=OX.ev fu;have O':=fu.off G4;have g5:dE[fl]? =some (.list ((q.map (·.2)).flatten.map fM)):=by rw[fu.get fl G4];exact g4
 rw[<-fu.inst];have Pa:=OZ.trans (gD.of fu (tl:=tl));have tG:_=some (O.list _):=gk.at' .bk;have yu:_=some (O.list _):=gk.at' .aU;have rk:_=some (O.dict _ _):=gk.at' .aA;done;rw[FA tG];ext;have G6:=N5 H t;have hTs:=N6 H t;refine fm (c:=c5) (a8 (by rw[aP];(exact aG ak cc [.l (.add af dw) d9,.l ak az] rfl hN G6))) λnl dF iZ P6 O6 e6 g6=> ?_;ext;rw[eK (P6 _ _ yu)];ext;rw[MT (P6 _ _ rk) (nv oI _)];ext;refine ME (c:=c5) λdl jA mu P7 O7 e7 g7=> ?_;ext;done;have yv:=P6.trans P7;have h7:=h5.pre yv;have Pb:=O8.pre yv;have G7:=O'.pre yv;have Pc:=yv _ _ g5;have Pe:=P7 _ _ g6;have Pf:=O6.pre P7;have aho:=ahm H t;refine Gl (by rw[N4];exact hlen) (by exact aG aK cc [.l (.add af dw) d9,.l ak az] rfl hN G6) (by rw[Gn];(exact bq (.add kx aX) cc [.l (.add cI dw) d9,.l av aK] rfl hT hTs)) λc8 i5 ahp Pg lx gA=> ?_;rw[aho]at lx Pg;have hK:c8.jv=c5.jv:=by rcases Pg with h|h;exact h;lia
 have Ph:=O0.trans ahp;have h8:i' au.length i5 shl (tD (rP H.k)):=h7.keep λk hk sb=>gA.get k ⟨sb,λr e=>by rw[O0.ab]at e;have:=hR.lt r;have:=P1.len;(exact o9 [.l af ak,.q av ak,.l bD bo,.l bo af] rfl hk e (by assumption) this),λe=>by have:=hR.lt .inst;have:=P1.len;lia⟩;have Pj:=Pb.ev gA;have ahq:=gA.off G7;have Pl:i5[fl]? =some (.list ((q.map (·.2)).flatten.map fM)):=by rw[gA.get fl G7];exact Pc
 have Pm:i5[nl]? =some (.list ((bw H t).bk.map bJ)):=by rw[gA.get nl Pf];exact Pe
 have Pn:i5[dl]? =some (.dict (enc bJ gL c5.jv) none):=by rw[gA.get dl O7];exact g7
 rw[<-gA.inst];have E08:gD tl c st c8 i5:=(Pa.trans (gD.B4 yv)).trans (gD.of gA);clear h7 h5 h4 Pb O8 OX ft gk iZ mu G4 O' G7 g4 g5 Pc Pe g7 g6 O6 O7 Pf tG yu rk Pa OZ;have tG:_=some (O.list _):=lx.at' .bk;have yu:_=some (O.list _):=lx.at' .aU;have rk:_=some (O.dict _ _):=lx.at' .aA;done;rw[FA tG];ext;refine fm (c:=c8) (a8 (by rw[aP];(exact aG ak cc [.l (.add af dw) d9,.l ak az] rfl hN G6))) λnl2 gQ oQ P9 O9 e9 g9=> ?_;ext;rw[eK (P9 _ _ yu)];ext;rw[MT (P9 _ _ rk) (nv oI _)];ext;refine ME (c:=c8) λdl2 kf kg Po BM e10 oR=> ?_;ext;have vH:=P9.trans Po;have e1:bZ 5 kf (.ab nl2) (.ab nl)=some true:=by have a:=Po _ _ g9;have b:=vH _ _ Pm;rw[show(bw H t).bk.map bJ=((bw H t).bk.map λt:aW=>((t.val:Int)+10)).map .int by rw[pT];rfl]at a b;rw[GP 4 a b];simp
 have e2:bZ 5 kf (.ab dl2) (.ab dl)=some true:=by rw[hK]at oR;exact ahl oR (vH _ _ Pn) (hK▸lx.fk)
 ext;rw[xE (x:=true) (by exact eqT rfl (ja e1 (ja oW (ja e2 rfl))))];ext;rw[if_neg (by simp)];ext;clear e1 e2 oR g9 BM O9 oQ tG yu rk Pn Pm;have xr:=h8.pre vH;have Pp:=Pj.pre vH;have oR:=vH _ _ Pl;refine OT (by rw[OV];exact hm) (by rw[yt];exact vD) λaj7 qp qv u0=> ?_;rw[show rP (bw H t).k=rP H.k by unfold rP;rw[yt,OV]]at u0;have qq:Rep c8 (bw H t) qp:=kg.pre qv;ext;rw[xE (ahh u0 (xr.pre qv) Ph.up Ph.tab (GZ H t) (B7 H t))];ext;rw[if_neg (by simp)];ext;have tH:=Pp.pre qv;have BS:=qv _ _ oR;have ye:=E08.trans (gD.B4 (tl:=tl) (c:=c8) (vH.trans qv));clear xr Pp oR u0 h8 Pj Pl kg lx ahq;done;done;rw[tE tH];ext;rw[OS tH];ext;rw[if_neg (by rw[hA];simp)];done;done;cases hv:(bw H t).k.aA t with
 |none=>rw[if_pos (by simp)];done;exact k c8 qp qq tH ye
 |some v=>
  obtain⟨x,hx,vx,j8⟩:=hB v hv;rw[if_neg (by simp)];done;done;rw[Ml hv];ext;have ahr:∀{R:V->ah->Prop},wp (getItem (gL v) (.int 0)) R qp=R (.int (sgn v)) qp:=by
   intro R;cases v with
   |none=>exact Mf
   |some s=>exact Mf
  ext;rw[ahr];ext;rw[tE tH];ext;rw[GY tH hx];unfold gB;ext;have tG:_=some (O.list _):=qq.at' .bk;rw[if_neg (by rw[vx];simp)];ext;rw[w_count tG,j8];ext;rw[if_neg (by simp)];done;done;cases hl:lk sT t with
  |some y=>refine FF rfl ?_;ext;exact k c8 qp qq tH ye
  |none=>
   refine vd pQ ?_;obtain⟨hU,h1,h2,f,l,hf,jC,ahs,hso,k7,aht⟩:=hC hl v hv;ext;refine ag9 hU hf jC h1 h2 BS yp ahs hso k7 aht λyg G8=> ?_;ext;exact k c8 yg (qq.pre G8) (tH.pre G8) (ye.trans (gD.B4 G8))
end
end
variable{x:Th}
section
@[reducible]abbrev Ed:=Th×(Th×bR)
abbrev rv(p:Ed):Ed:=(p.2.1,(p.1,p.2.2))
def ahu(l:List Ed):∀(up:Up) (x:Th),x∈l.map (·.1)->jx up l x=none:=by
 induction l with
 |nil=>intro up x h;cases h
 |cons p r ih=>
  intro up x h;show jx (upd up p.1 none) r x=none;by_cases hr:x∈r.map (·.1)
  .exact ih _ _ hr
  .have hx:x=p.1:=by
    rw[eP,bU]at h;exact h.resolve_right hr
   have:∀(l:List Ed) (u:Up),x∉l.map (·.1)->jx u l x=u x:=by
    intro l;induction l with
    |nil=>intro u _;rfl
    |cons q s ih2=>intro u h;rw[eP,bU,not_or]at h;show jx (upd u q.1 none) s x=u x;rw[ih2 _ h.2,bO h.1]
   rw[this r _ hr,hx,bK]
def ahv(l:List Ed):∀(up:Up) (x:Th),x∉l.map (·.1)->jx up l x=up x:=by
 induction l with
 |nil=>intro up x _;rfl
 |cons p r ih=>intro up x h;rw[eP,bU,not_or]at h;show jx (upd up p.1 none) r x=up x;rw[ih _ _ h.2,bO h.1]
def G9(l:List Ed):∀(up:Up) (x:Th),x∉l.map (·.2.1)->qh up l x=up x:=by
 induction l with
 |nil=>intro up x _;rfl
 |cons p r ih=>intro up x h;rw[eP,bU,not_or]at h;show qh (upd up p.2.1 (some (p.1,p.2.2))) r x=up x;rw[ih _ _ h.2,bO h.1]
def ahw(l:List Ed)(hn:(l.map (·.2.1)).Nodup):∀(up:Up) (p:Ed),p∈l->qh up l p.2.1=some (p.1,p.2.2):=by
 induction l with
 |nil=>intro up p h;cases h
 |cons q r ih=>
  intro up p h;rw[eP,d0]at hn;show qh (upd up q.2.1 (some (q.1,q.2.2))) r p.2.1=_;rcases bU.mp h with rfl|h
  .rw[G9 r _ _ hn.1,bK]
  .exact ih hn.2 _ p h
section
variable(h:dj up)
include h
def ahx(t:Th):((cE up t).map (·.2.1)).Nodup:=(d0.mp (tf h t)).2
def vI(t:Th){p:Ed}(hp:p∈cE up t):cw up t p.2.1=some (p.1,p.2.2):=ahw _ (ahx h t) _ p hp
def oX(t:Th):cw up t t=none:=by
 unfold cw;rw[G9 _ _ _ (d0.mp (tf h t)).1];cases e:up t with
 |none=>rw[nE h e];exact e
 |some p=>refine ahu _ _ _ ?_;rw[ech_some h e];exact dz
def vJ(t:Th)(hx:x∉bA up t):cw up t x=up x:=by unfold cw;rw[G9 _ _ _ (λhm=>hx (dM _ hm)),ahv _ _ _ (λhm=>hx (by rw[<-vp h t];exact gT _ hm))]
def ahy{t:Th}:∀{A B:List Ed},cE up t=A++B->∀{x:Th},(∀p r,A=p++[r]->x=r.2.1)->(A=[]->x=t)->cE up x=B:=by
 refine h.ind (P:=λt=>∀{A B:List Ed},cE up t=A++B->∀{x:Th},(∀p r,A=p++[r]->x=r.2.1)->(A=[]->x=t)->cE up x=B) ?_ ?_ t
 .intro t e A B mA x h1 h2;rw[nE h e]at mA;obtain⟨rfl,rfl⟩:=List.append_eq_nil_iff.mp mA.symm;rw[h2 rfl,nE h e]
 .intro t e he ih A B mA x h1 h2;cases A with
  |nil=>rw[h2 rfl];exact mA
  |cons a r=>
   rw[ech_some h he,u4,nJ]at mA;obtain⟨rfl,mA⟩:=mA;refine ih mA (λp q hr=>h1 ((t,e)::p) q (by rw[hr];rfl)) (λhr=> ?_);exact h1 [] (t,e) (by rw[hr];rfl)
def ahz{t:Th}(Pq:dj (cw up t)):∀{A B:List Ed},cE up t=A++B->∀{x:Th},(∀p r,A=p++[r]->x=r.2.1)->(A=[]->x=t)->cE (cw up t) x=(A.map rv).reverse:=by
 intro A;induction hl:A.length generalizing A with
 |zero=>intro B mA x h1 h2;have:=se.mp hl;subst this;rw[h2 rfl,nE Pq (oX h t)];rfl
 |succ n ih=>
  intro B mA x h1 h2;have ba:A≠[]:=by intro e;rw[e]at hl;cases hl
  have hs:=(uq ba).symm;generalize A.dropLast=A' at hs;generalize A.getLast ba=q at hs;subst hs;have hx:=h1 A' q rfl;rw[hx];rw[ech_some Pq (vI h t (rwE mA (gT _ (tI _ dz))))];have qz:cE up t=A'++q::B:=mA.trans (pV A' [q] B);rw[ih (iS (bM.symm.trans hl)) (B:=q::B) qz (x:=q.1) ?_ ?_]
  .intro p r hA;subst hA;have:=ahy h (A:=p++[r]) (B:=q::B) (t:=t) qz (x:=r.2.1) (λp' r' e=>by
    obtain⟨_,e2⟩:=ahA e rfl;simp only[nJ,and_true]at e2;rw[e2]) (λe=>by simp at e)
   cases hu:up r.2.1 with
   |none=>rw[nE h hu]at this;cases this
   |some e=>rw[ech_some h hu,nJ]at this;rw[<-this.1]
  .intro hA;subst hA;cases hu:up t with
   |none=>rw[nE h hu]at qz;cases qz
   |some e=>rw[ech_some h hu]at qz;replace qz:_::_=q::B:=qz;rw[nJ]at qz;rw[<-qz.1]
  .simp[rv]
def Pr(t:Th):∀x∈bA up t,pk up x=pk up t:=by
 refine h.ind (P:=λt=>∀x∈bA up t,pk up x=pk up t) (λt e x hx=> ?_) (λt e he ih x hx=> ?_) t
 .rw[rN h e,bV]at hx;rw[hx]
 .rw[nod_some h he,bU]at hx;rcases hx with rfl|hx
  .rfl
  .rw[ih x hx,pk_some h he]
def B9(t:Th)(hx:x∈bA up t):x=t\/∃p∈cE up t,x=p.2.1:=by
 rcases bU.mp hx with hx|hx
 .exact .inl hx
 .obtain⟨p,hp,rfl⟩:=d4.mp hx;exact .inr ⟨p,hp,rfl⟩
def Pt(t:Th){p:Ed}(hp:p∈cE up t):p.1∈bA up t:=by rw[<-vp h t];exact gT _ (xI (f:=(·.1)) hp)
def yw(t:Th):dj (cw up t):=by
 obtain⟨d,h7,hd⟩:=h.rank;refine⟨λx=>if x∈bA up t then 7-d x else d x+8,λx e he=> ?_⟩;by_cases hx:x∈bA up t
 .rcases B9 h t hx with rfl|⟨p,hp,rfl⟩
  .rw[oX h]at he;cases he
  .rw[vI h t hp,eW]at he;subst he;simp only[if_pos hx,if_pos (Pt h t hp)];have h1:=hd _ _ (xV h t p hp);exact Nat.sub_lt_sub_left (eM h1 (h7 p.1)) h1
 .rw[vJ h t hx]at he;dsimp only[if_neg hx];split
  .exact iT (Gy _ _) (eM (by decide:7<8) (wY 8 _))
  .exact Nat.add_lt_add_right (hd x e he) 8
def Pu(t:Th)(he:cw up t x=some (p,w)):up x=some (p,w)\/up p=some (x,w):=by
 by_cases hx:x∈bA up t
 .rcases B9 h t hx with rfl|⟨q,hq,rfl⟩
  .rw[oX h]at he;cases he
  .rw[vI h t hq,eW,B']at he;rw[<-he.1,<-he.2];exact .inr (xV h t q hq)
 .rw[vJ h t hx]at he;exact .inl he
def Ha(t x:Th):pk (cw up t) x=if pk up x=pk up t then t else pk up x:=by
 have hA:=yw h t;have h1:∀x,x∈bA up t->pk (cw up t) x=t:=by
  intro x;refine hA.ind (P:=λx=>x∈bA up t->pk (cw up t) x=t) (λx e hx=> ?_) (λx e he ih hx=> ?_) x
  .rcases B9 h t hx with rfl|⟨p,hp,rfl⟩
   .exact mj hA e
   .rw[vI h t hp]at e;cases e
  .rcases B9 h t hx with rfl|⟨p,hp,rfl⟩
   .rw[oX h]at he;cases he
   .rw[pk_some hA he];rw[vI h t hp,eW]at he;subst he;exact ih (Pt h t hp)
 refine h.ind (P:=λx=>pk (cw up t) x=if pk up x=pk up t then t else pk up x) (λx e=> ?_) (λx e he ih=> ?_) x
 .by_cases hx:x∈bA up t
  .rw[h1 x hx,if_pos (Pr h t x hx)]
  .rw[mj hA ((vJ h t hx)▸e),mj h e,if_neg];intro hc;rw[hc]at hx;exact hx (tg t)
 .by_cases hx:x∈bA up t
  .rw[h1 x hx,if_pos (Pr h t x hx)]
  .rw[pk_some hA ((vJ h t hx)▸he),ih,pk_some h he]
def ahB(t:Th):(∀p r,cE up t=p++[r]->pk up t=r.2.1)/\(cE up t=[]->pk up t=t):=by
 refine⟨λp r e=> ?_,λe=> ?_⟩
 .unfold pk bA;simp only[e,cD,eP,Ca];rw[afM (by simp),afT (by simp) (by simp)];rfl
 .unfold pk bA;simp only[e];rfl
def ahC(t:Th):cw (cw up t) (pk up t)=up:=by
 have hA:=yw h t;obtain⟨dp,eg⟩:=ahB h t;have Pw:=ahz h hA (A:=cE up t) (B:=[]) (by simp) dp eg;have pY:∀x,x∈bA (cw up t) (pk up t)<->x∈bA up t:=by
  intro x;unfold bA;rw[Pw];have:=congrArg (x∈·) (vp h t);rw[dA,bV]at this;rw[show x∈t::(cE up t).map (·.2.1)<->x∈(cE up t).map (·.1)\/x=pk up t from by rw[this];rfl];rw[bU,Y1,xj,pT];constructor
  .rintro(rfl|hx)
   .exact .inr rfl
   .exact .inl hx
  .rintro(hx|rfl)
   .exact .inr hx
   .exact .inl rfl
 funext x;by_cases hx:x∈bA up t
 .by_cases hp:x=pk up t
  .rw[hp,oX hA,afN h]
  .have j8:=hx;rw[<-vp h t,dA,bV]at j8;obtain⟨q,hq,rfl⟩:=d4.mp (j8.resolve_right hp);have:=vI hA (pk up t) (p:=rv q) (by rw[Pw,xj];exact xI hq);rw[show(rv q).2.1=q.1 from rfl]at this;rw[this,xV h t q hq];rfl
 .rw[vJ hA (pk up t) (λhm=>hx ((pY x).mp hm)),vJ h t hx]
end
end
variable{y:Th}{g:Th→Th}
section
structure Model(F:List Fact)(g:Th->Th):Prop where
 cT:∀f∈F,f.cT=true->g f.u=g f.v
 arg:g 0=g 1->g 3=g 4
abbrev Ref(h g:Th->Th):Prop:=∀x y,h x=h y->g x=g y
def yx(a b:Th):(mn a b=a/\mx a b=b)\/(mn a b=b/\mx a b=a):=by
 unfold mn mx;by_cases h:a<=b
 .rw[if_pos h,if_pos h];exact .inl ⟨rfl,rfl⟩
 .rw[if_neg h,if_neg h];exact .inr ⟨rfl,rfl⟩
variable{p:Th×Th}
def ahD{h:Th->Th}(hr:Ref h g)(hp:g p.1=g p.2):Ref (fv h p) g:=by
 have key:∀x,∃z,h z=fv h p x/\g z=g x:=by
  intro x;unfold fv;by_cases hx:h x=mx (h p.1) (h p.2)
  .rw[if_pos hx];rcases yx (h p.1) (h p.2)with⟨e1,e2⟩|⟨e1,e2⟩
   .rw[e2]at hx;exact⟨p.1,e1.symm,by rw[hp];exact(hr _ _ hx).symm⟩
   .rw[e2]at hx;exact⟨p.2,e1.symm,by rw[<-hp];exact(hr _ _ hx).symm⟩
  .rw[if_neg hx];exact⟨x,rfl,rfl⟩
 intro x y jb;obtain⟨z,h1,h2⟩:=key x;obtain⟨w,h3,h4⟩:=key y;rw[<-h2,<-h4];exact hr _ _ (by rw[h1,h3,jb])
def ahE(l:List (Th×Th)):∀{h:Th->Th},Ref h g->(∀p∈l,g p.1=g p.2)->Ref (l.foldl fv h) g:=by
 induction l with
 |nil=>intro _ hr _;exact hr
 |cons p r ih=>intro h hr hl;exact ih (ahD hr (hl p dz)) λq hq=>hl q (dM _ hq)
def ahF{h:Th->Th}(e:h x=h y):fv h p x=fv h p y:=by unfold fv;rw[e]
def ahG(l:List (Th×Th)):∀{h:Th->Th},h x=h y->l.foldl fv h x=l.foldl fv h y:=by
 induction l with
 |nil=>intro _ e;exact e
 |cons p r ih=>intro h e;exact ih (ahF e)
def ahH(h:Th->Th)(p:Th×Th):fv h p p.1=fv h p p.2:=by
 unfold fv;rcases yx (h p.1) (h p.2)with⟨e1,e2⟩|⟨e1,e2⟩
 .rw[e1,e2];simp
 .rw[e1,e2];simp
def Hb:∀(l:List (Th×Th)) (h:Th->Th),∀p∈l,l.foldl fv h p.1=l.foldl fv h p.2:=by
 intro l;induction l with
 |nil=>exact λY Y h=>(lR h).elim
 |cons q r ih=>
  intro h p hp;rcases bU.mp hp with rfl|hp
  .exact ahG r (ahH h p)
  .exact ih _ p hp
def ahI{h:Th->Th}(e:h p.1=h p.2):fv h p=h:=by
 funext x;unfold fv;rcases yx (h p.1) (h p.2)with⟨e1,e2⟩|⟨e1,e2⟩
 .rw[e1,e2];split
  .rw[e];rename_i hx;exact hx.symm
  .rfl
 .rw[e1,e2];split
  .rw[<-e];rename_i hx;exact hx.symm
  .rfl
def ahJ(l:List (Th×Th)):∀{h:Th->Th},(∀p∈l,h p.1=h p.2)->l.foldl fv h=h:=by
 induction l with
 |nil=>intro _ _;exact rfl
 |cons p r ih=>intro h e;rw[NY,ahI (e p dz)];exact ih λq hq=>e q (dM _ hq)
variable{F:List Fact}
def ahK(h:p∈jE F):∃f∈F,f.cT=true/\p=(f.u,f.v):=by
 obtain⟨f,hf,rfl⟩:=d4.mp h;obtain⟨h1,h2⟩:=iK.mp hf;exact⟨f,h1,h2,rfl⟩
def ahL{f:Fact}(h:f∈F)(ht:f.cT=true):(f.u,f.v)∈jE F:=xI (f:=λf:Fact=>(f.u,f.v)) (iK.mpr ⟨h,ht⟩)
def Px{h:Th->Th}(hM:Model F g)(hr:Ref h g):Ref (oU (jE F) h) g:=by
 refine ahE _ hr λp hp=> ?_;rcases dA.mp hp with hp|hp
 .obtain⟨f,h1,h2,rfl⟩:=ahK hp;exact hM.cT f h1 h2
 .by_cases dK:h 0=h 1
  .rw[if_pos dK,bV]at hp;rw[hp];exact hM.arg (hr _ _ dK)
  .rw[if_neg dK]at hp;cases hp
def Py(hM:Model F g):Ref (bX F) g:=Px hM (Px hM λx y e=>by rw[show x=y from e])
def vK(F:List Fact):Model F (bX F):=by
 refine⟨λf hf ht=> ?_,λdK=> ?_⟩
 .exact Hb _ _ _ (gT _ (ahL hf ht))
 .unfold bX at dK⊢;have h1:∀p∈jE F,oU (jE F) id p.1=oU (jE F) id p.2:=λp hp=>by
   exact Hb _ _ _ (gT _ hp)
  generalize oU (jE F) id=h at*;by_cases e:h 0=h 1
  .unfold oU;rw[if_pos e];exact Hb (jE F++[(3,4)]) h (3,4) (by simp)
  .exfalso;unfold oU at dK;rw[if_neg e,gv,ahJ _ h1]at dK;exact e dK
def Model.sub{F':List Fact}(h:Model F' g)(hs:∀f∈F,f∈F'):Model F g:=⟨λf hf=>h.cT f (hs f hf),h.arg⟩
def Cb{F':List Fact}(hs:∀f∈F,f∈F')(e:bX F x=bX F y):bX F' x=bX F' y:=Py ((vK F').sub hs) _ _ e
def Hc(a b c d:Th):iM a b=iM c d<->(a=c/\b=d)\/(a=d/\b=c):=by
 unfold iM;constructor
 .intro e;rw[B']at e;rcases yx a b with⟨e1,e2⟩|⟨e1,e2⟩<;>rcases yx c d with⟨e3,e4⟩|⟨e3,e4⟩<;>rw[e1,e2,e3,e4]at e
  .exact .inl e
  .exact .inr e
  .exact .inr ⟨e.2,e.1⟩
  .exact .inl ⟨e.2,e.1⟩
 .rintro(⟨rfl,rfl⟩|⟨rfl,rfl⟩)
  .rfl
  .have h1:mn a b=mn b a/\mx a b=mx b a:=by
    unfold mn mx;by_cases h:a<=b<;>by_cases h':b<=a
    .have:=Fin.le_antisymm h h';rw[this];simp
    .simp[h,h']
    .simp[h,h']
    .rcases Fin.le_total a b with q|q
     .exact absurd q h
     .exact absurd q h'
   rw[h1.1,h1.2]
abbrev Apart(F:List Fact)(h:Th->Th)(u v:Th):Prop:=(∃f∈F,f.cT=false/\((h u=h f.u/\h v=h f.v)\/(h u=h f.v/\h v=h f.u)))\/((h u=h 5/\h v=h 6)\/(h u=h 6/\h v=h 5))
def Pz(F:List Fact)(h:Th->Th)(u v:Th):iM (h u) (h v)∈vE F h<->Apart F h u v:=by
 unfold vE;rw[dA,bV,Hc];constructor
 .rintro(hm|hm)
  .obtain⟨f,hf,e⟩:=d4.mp hm;obtain⟨h1,h2⟩:=iK.mp hf;rw[Hc]at e;refine .inl ⟨f,h1,by simpa using h2, ?_⟩;rcases e with⟨e1,e2⟩|⟨e1,e2⟩
   .exact .inl ⟨e1.symm,e2.symm⟩
   .exact .inr ⟨e2.symm,e1.symm⟩
  .exact .inr hm
 .rintro(⟨f,h1,h2,h3⟩|hm)
  .refine .inl (d4.mpr ⟨f,iK.mpr ⟨h1,by simp[h2]⟩, ?_⟩);rw[Hc];rcases h3 with⟨e1,e2⟩|⟨e1,e2⟩
   .exact .inl ⟨e1.symm,e2.symm⟩
   .exact .inr ⟨e2.symm,e1.symm⟩
  .exact .inr hm
def PA(h:bX F u=bX F v):fA F u v=1:=by unfold fA;rw[if_pos h]
def PB(h:bX F u≠bX F v)(h2:Apart F (bX F) u v):fA F u v= -1:=by unfold fA;rw[if_neg h,if_pos ((Pz ..).mpr h2)]
def ahM(h:bX F u≠bX F v)(h2:¬Apart F (bX F) u v):fA F u v=0:=by unfold fA;rw[if_neg h,if_neg (λe=>h2 ((Pz ..).mp e))]
structure Calm(F:List Fact):Prop where
 num:bX F 5≠bX F 6
 sep:∀f∈F,f.cT=false->bX F f.u≠bX F f.v
def ahN(F:List Fact):yo F=false<->Calm F:=by
 unfold yo;rw[z9];constructor
 .intro bz;obtain⟨h1,h2⟩:=bz;refine⟨by simpa using h1,λf hf ht=> ?_⟩;rw[K6]at h2;simpa[ht]using(h2 f hf)
 .intro bz;obtain⟨h1,h2⟩:=bz;refine⟨by simpa using h1, ?_⟩;rw[K6];intro f hf;cases ht:f.cT with
  |true=>simp
  |false=>simpa[ht]using h2 f hf ht
end
variable{v:Told}{a b:Th}{c:Th→Bool}
def Bk.app{K1:Core}{es:List Ent}(h:Bk K0 es K1):∀{iy:List Ent} {K2:Core},Bk K1 iy K2->Bk K0 (es++iy) K2:=by
 intro iy K2 h2;induction h2 with
 |nil=>rw[gv];exact h
 |snoc _ hu hf ih=>rw[<-pV];exact .snoc ih hu hf
def Bk.one{K1:Core}(hu:yl e K1)(hf:yk e K1=K0):Bk K0 [e] K1:=.snoc .nil hu hf
structure Ext(H H':aB):Prop where
 es:∃es,H'.aU=H.aU++es/\Bk H.k es H'.k
 b:H'.b=H.b
 bt:H'.bt=H.bt
def Ext.refl(H:aB):Ext H H:=⟨⟨[],by simp,.nil⟩,rfl,rfl⟩
def Ext.trans{a b c:aB}(x:Ext a b)(y:Ext b c):Ext a c:=by
 obtain⟨⟨e1,h1,h2⟩,x2,x3⟩:=x;obtain⟨⟨e2,h3,h4⟩,y2,y3⟩:=y;exact⟨⟨e1++e2,by rw[h3,h1,pV],h2.app h4⟩,y2.trans x2,y3.trans x3⟩
def Core.ext'{a b:Core}(h1:a.ae=b.ae)(h2:a.mem=b.mem)(h3:a.use=b.use)(h4:a.val=b.val)(h5:a.aD=b.aD)(h6:a.aS=b.aS)(h7:a.up=b.up)(h8:a.tab=b.tab)(h9:a.aA=b.aA):a=b:=by cases a;simp only at*;subst h1 h2 h3 h4 h5 h6 h7 h8 h9;rfl
def qA [DecidableEq α] (f:α->β)(a:α)(b c:β):upd (upd f a b) a c=upd f a c:=by funext x;unfold upd;split<;>rfl
def Cc [DecidableEq α] (f:α->β)(a:α):upd f a (f a)=f:=by funext x;unfold upd;split<;>simp_all
def tJ [DecidableEq α] {f:α->β}{a:α}{b:β}(h:f a=b):upd f a b=f:=by rw[<-h];exact Cc f a
def Cd(f:Th->List α)(g:Th)(x:List α):upd (upd f g (f g++x)) g ((upd f g (f g++x) g).take (f g).length)=f:=by rw[bK,qA];exact tJ (by rw[Gz rfl])
def Hd(H:aB)(t:aW):Ext H (bw H t):=by
 by_cases h:(H.k.aA t).isSome=true
 .rw[OU h];exact .refl H
 .unfold bw;rw[if_neg h];cases lu H.k t with
  |none=>exact .refl H
  |some v=>exact⟨⟨[.aA t],rfl,.one (by show ahO (upd _ _ _ _)=true;rw[bK];rfl) (Core.ext' rfl rfl rfl rfl rfl rfl rfl rfl (by show upd (upd _ _ _) _ _=_;rw[qA,tJ (by simpa using h)]))⟩,rfl,rfl⟩
def PC(l:List aW):∀H:aB,Ext H (tells H l):=by
 induction l with
 |nil=>intro H;exact .refl H
 |cons t r ih=>intro H;exact(Hd H t).trans (ih (bw H t))
def ahP(H:aB)(t:Th):Ext H (gm H t):=by
 unfold gm;by_cases h:H.k.tab (H.k.ae (arg t))=some t
 .rw[if_pos h];exact⟨⟨[.tab (H.k.ae (arg t)) (some t)],rfl,.one (λh=>(nomatch h)) (Core.ext' rfl rfl rfl rfl rfl rfl rfl (by show upd (upd _ _ _) _ _=_;rw[qA,tJ h]) rfl)⟩,rfl,rfl⟩
 .rw[if_neg h];exact .refl H
def ahQ(H:aB)(t:Th):Ext H (eF H t):=by
 unfold eF;cases h:H.k.tab (H.k.ae (arg t))with
 |none=>exact⟨⟨[.tab (H.k.ae (arg t)) none],rfl,.one (λY=>(show ahO (upd _ _ _ _)=true by rw[bK];rfl)) (Core.ext' rfl rfl rfl rfl rfl rfl rfl (by show upd (upd _ _ _) _ _=_;rw[qA,tJ h]) rfl)⟩,rfl,rfl⟩
 |some o=>
  simp only;split
  .exact .refl H
  .exact⟨⟨[],by simp,.nil⟩,rfl,rfl⟩
def ahR(l:List Th):∀H:aB,Ext H (iI H l):=by
 induction l with
 |nil=>intro H;exact .refl H
 |cons t r ih=>intro H;exact(ahP H t).trans (ih (gm H t))
def ahS(l:List Th):∀H:aB,Ext H (i7 H l):=by
 induction l with
 |nil=>intro H;exact .refl H
 |cons t r ih=>intro H;exact(ahQ H t).trans (ih (eF H t))
def ahT(hA:dj H.k.up)(l r:Th)(w:bR):Ext H (dT H l r w):=by
 refine⟨⟨[.di l (pk H.k.up l)],rfl,.one ⟨by simp[dT,bK], ?_⟩ (Core.ext' rfl rfl rfl rfl rfl rfl ?_ rfl rfl)⟩,rfl,rfl⟩
 .show dj (upd (upd (cw H.k.up l) l _) l none);rw[qA,tJ (oX hA l)];exact yw hA l
 .show cw (upd (upd (cw H.k.up l) l _) l none) (pk H.k.up l)=H.k.up;rw[qA,tJ (oX hA l)];exact ahC hA l
def He(g:Th):∀(l:List Th) (ae:Th->Th) (t:Th),gO ae g l t=if t∈l then g else ae t:=by
 intro l;induction l with
 |nil=>intro ae t;simp[gO]
 |cons a r ih=>
  intro ae t;show gO (upd ae a g) g r t=_;rw[ih];by_cases h:t∈r
  .simp[h]
  .by_cases e:t=a
   .subst e;simp[h,bK]
   .simp[h,e,bO e]
abbrev lA(H:aB)(s g:Th):aB:=fO (gP (ib (qm H s g) s g) s g) s g
def Hf(H:aB)(s g:Th):(lA H s g).k=⟨gO H.k.ae g (H.k.mem s),upd H.k.mem g (H.k.mem g++H.k.mem s),upd H.k.use g (H.k.use g++H.k.use s),if(H.k.val g).isNone then upd H.k.val g (H.k.val s)else H.k.val,upd H.k.aD g (H.k.aD g++H.k.aD s),upd H.k.aS g (H.k.aS g++H.k.aS s),H.k.up,H.k.tab,H.k.aA⟩:=by unfold lA fO;have:(gP (ib (qm H s g) s g) s g).k.val=H.k.val:=rfl;rw[this];split<;>rfl
def PD(H:aB)(s g:Th):(lA H s g).aU=H.aU++[.join s g (H.k.mem g).length (H.k.use g).length (H.k.aD g).length (H.k.aS g).length (H.k.val g)]:=by unfold lA fO;split<;>rfl
def PE(H:aB)(s g:Th):(lA H s g).b=H.b/\(lA H s g).bt=H.bt/\(lA H s g).aN=H.aN/\(lA H s g).bk=H.bk:=by unfold lA fO;split<;>exact⟨rfl,rfl,rfl,rfl⟩
def ahU{g:Th}(ba:s≠g)(hs:∀t,t∈H.k.mem s<->H.k.ae t=s)(hL:∀t,(H.k.mem t).length<=500/\(H.k.use t).length<=500/\(H.k.aD t).length<=500/\(H.k.aS t).length<=500):Ext H (lA H s g):=by
 obtain⟨b1,b2,_⟩:=PE H s g;refine⟨⟨_,PD H s g,.one ?_ ?_⟩,b1,b2⟩
 .rw[Hf];obtain⟨a1,a2,a3,a4⟩:=hL g;have:=(hL s).1;refine⟨ba, ?_, ?_, ?_, ?_, ?_,a9 af dI [.l af qH] rfl a1,a9 af dI [.l af qH] rfl a2,a9 af dI [.l af qH] rfl a3,a9 af dI [.l af qH] rfl a4⟩<;>simp only[bK,bO ba,bM]<;>lia
 .rw[Hf];refine Core.ext' ?_ ?_ ?_ ?_ ?_ ?_ rfl rfl rfl
  .show gO (gO H.k.ae g (H.k.mem s)) s (upd H.k.mem g _ s)=H.k.ae;rw[bO ba];funext t;rw[He,He];by_cases h:t∈H.k.mem s
   .rw[if_pos h];exact((hs t).mp h).symm
   .rw[if_neg h,if_neg h]
  .exact Cd _ _ _
  .exact Cd _ _ _
  .show upd (if _ then _ else _) _ _=_;split
   .rw[qA,Cc]
   .rw[Cc]
  .exact Cd _ _ _
  .exact Cd _ _ _
def ahV(mv:List Th):∀(H:aB),(∀t∈mv,H.k.ae (arg t)=s)->(∀x,H.k.tab s=some x->x∈mv)->(iI H mv).k.tab=upd H.k.tab s none:=by
 induction mv with
 |nil=>
  intro H _ h2;cases e:H.k.tab s with
  |none=>exact(tJ e).symm
  |some x=>cases h2 x e
 |cons t r ih=>
  intro H h1 h2;show(iI (gm H t) r).k.tab=_;have ht:=h1 t dz;by_cases h:H.k.tab s=some t
  .have hk:(gm H t).k.tab=upd H.k.tab s none:=by unfold gm;rw[ht,if_pos h]
   rw[ih (gm H t) (λx hx=>by rw[((N9 H t).1.ae)];exact h1 x (dM _ hx)) (λx hx=>by rw[hk,bK]at hx;cases hx),hk,qA]
  .have hk:gm H t=H:=by unfold gm;rw[ht,if_neg h]
   rw[hk];refine ih H (λx hx=>h1 x (dM _ hx)) λx hx=> ?_;rcases bU.mp (h2 x hx)with rfl|hm
   .exact absurd hx h
   .exact hm
abbrev rR(ae:Th->Th)(o:Option Th)(mv:List Th):List (Th×Th×bR):=match o with
 |none=>[]
 |some o=>(mv.filter λt=> !decide (ae o=ae t)).map λt=>(t,o,none)
def Ce{o:Th}{mv:List Th}:rR ae (some o) mv=(mv.filter λt=> !decide (ae o=ae t)).map λt=>(t,o,none):=rfl
def ahW{g:Th}:∀(mv:List Th) (H:aB),(∀t∈mv,H.k.ae (arg t)=g)->(i7 H mv).k.tab=upd H.k.tab g ((H.k.tab g).or mv.head?)/\(i7 H mv).aN=H.aN++rR H.k.ae ((H.k.tab g).or mv.head?) mv:=by
 intro mv;induction mv with
 |nil=>
  intro H _;refine⟨?_, ?_⟩
  .rw[List.head?_nil,Option.or_none];exact(Cc _ _).symm
  .cases H.k.tab g<;>exact(gv _).symm
 |cons t r ih=>
  intro H h1;have ht:=h1 t dz;have hr:=(Oa H t).1.ae;obtain⟨i1,i2⟩:=ih (eF H t) (λx hx=>by rw[hr];exact h1 x (dM _ hx));show(i7 (eF H t) r).k.tab=_/\(i7 (eF H t) r).aN=_;rw[i1,i2,hr];cases e:H.k.tab g with
  |none=>
   have hk:(eF H t).k.tab=upd H.k.tab g (some t)/\(eF H t).aN=H.aN:=by unfold eF;rw[ht,e];exact⟨rfl,rfl⟩
   rw[hk.1,hk.2,bK,qA];refine⟨rfl, ?_⟩;simp[Ce]
  |some o=>
   by_cases ho:H.k.ae o=H.k.ae t
   .have hk:eF H t=H:=by unfold eF;rw[ht,e];simp only;rw[if_pos ho]
    rw[hk,e];refine⟨rfl, ?_⟩;simp[Ce,ho]
   .have hk:(eF H t).k.tab=H.k.tab/\(eF H t).aN=H.aN++[(t,o,none)]:=by unfold eF;rw[ht,e];simp only;rw[if_neg ho];exact⟨rfl,rfl⟩
    rw[hk.1,hk.2,e];refine⟨rfl, ?_⟩;simp[Ce,ho]
abbrev tK(ae:Th->Th)(f:Th->Nat):Nat:=(things.map λt=>if ae t=t then f t else 0).sum
abbrev wt(k:Core)(t:Th):Nat:=(k.mem t).length+(k.use t).length+(k.aD t).length+(k.aS t).length
def Cf{e:Th->Nat}{v:Nat}:∀l:List Th,l.Nodup->a∈l->(l.map (upd e a v)).sum+e a=(l.map e).sum+v:=by
 intro l hn hm;induction l with
 |nil=>cases hm
 |cons b r ih=>
  rw[d0]at hn;rw[eP];by_cases h:b=a
  .subst h;rw[(ES λt ht=>bO (by rintro rfl;exact hn.1 ht)),bK];exact dU (bq (.add cI av) (.add (.add av ak) af) [] rfl) (bq (.add cI av) (.add (.add av ak) af) [] rfl)
  .have:=ih hn.2 ((bU.mp hm).resolve_left (b0 h));rw[bO h];exact dU (mE (.add (.add cX af) ak) (.add (.add cX av) bo) [.e cI nQ] rfl this) (mE (.add (.add cX av) bo) (.add (.add cX af) ak) [.q cI nQ] rfl this)
def ahX{e:Th->Nat}:∀l:List Th,a∈l->e a<=(l.map e).sum:=by
 intro l hm;induction l with
 |nil=>cases hm
 |cons b r ih=>
  rcases bU.mp hm with rfl|hm
  ·(exact aG af cI [] rfl)
  .have:=ih hm;exact bq af (.add av ak) [.l af ak] rfl this
def ahY{f:Th->Nat}{g:Th}(hs:ae s=s)(hg:ae g=g)(ba:s≠g):
 tK (λt=>if ae t=s then g else ae t) (upd f g (f g+f s))=tK ae f/\f g+f s<=tK ae f:=by
 have key:(λt=>if(if ae t=s then g else ae t)=t then upd f g (f g+f s) t else 0)=upd (upd (λt=>if ae t=t then f t else 0) s 0) g (f g+f s):=by
  funext t;by_cases h1:t=g
  .subst h1;have h3:¬ae t=s:=by rw[hg];exact b0 ba
   rw[bK,bK,if_neg h3,hg,if_pos rfl]
  .rw[bO h1,bO h1];by_cases h2:t=s
   .subst h2;rw[bK,if_pos hs,if_neg (b0 h1)]
   .rw[bO h2];by_cases h3:ae t=s
    .rw[if_pos h3,if_neg (b0 h1),if_neg (h3▸b0 h2)]
    .rw[if_neg h3]
 unfold tK;rw[key];have a:=Cf (e:=λt=>if ae t=t then f t else 0) (a:=s) (v:=0) things xM (oJ s);have b:=Cf (e:=upd (λt=>if ae t=t then f t else 0) s 0) (a:=g) (v:=f g+f s) things xM (oJ g);rw[bO (b0 ba)]at b;simp only[hs,hg]at a b;refine⟨dU (mE bo av [.e cI (.add av iN),.e (.add bo cX) (.add af (.add cX ak))] rfl a b) (mE av bo [.q cI (.add av iN),.q (.add bo cX) (.add af (.add cX ak))] rfl a b), ?_⟩;have c:=ahX (e:=upd (upd (λt=>if ae t=t then f t else 0) s 0) g (f g+f s)) (a:=g) things (oJ g);rw[bK]at c
 exact mE (.add cX ak) av [.e cI (.add av iN),.e (.add bo cX) (.add af (.add cX ak)),.l (.add cX ak) bo] rfl a b c
variable{k k':Core}{l:Th}
section
abbrev Hg(F:List Fact)(s:Sep):Prop:=(s.2.2=0/\((s.1=5/\s.2.1=6)\/(s.1=6/\s.2.1=5)))\/∃f∈F,f.cT=false/\f.m=s.2.2/\((f.u=s.1/\f.v=s.2.1)\/(f.u=s.2.1/\f.v=s.1))
abbrev oY(F:List Fact)(k:Core)(t:aW):Told->Prop
 |none=>k.ae (aV t).1=k.ae (aV t).2
 |some s=>k.ae (aV t).1=k.ae s.1/\k.ae (aV t).2=k.ae s.2.1/\Hg F s
abbrev kq(F:List Fact)(k:Core)(t p:Th):bR->Prop
 |some m=>m≠0/\∃f∈F,f.cT=true/\f.m=m/\((f.u=t/\f.v=p)\/(f.u=p/\f.v=t))
 |none=>((t=3/\p=4)\/(t=4/\p=3))/\k.ae 0=k.ae 1
structure ez(F:List Fact)(k:Core):Prop where
 idem:∀t,k.ae (k.ae t)=k.ae t
 mem:∀r,k.ae r=r->∀t,t∈k.mem r<->k.ae t=r
 use:∀r,k.ae r=r->∀t,t∈k.use r<->(t=3\/t=4)/\k.ae (arg t)=r
 yy:∀r,k.ae r=r->(k.use r).Nodup
 val:∀r,k.ae r=r->∀v,k.val r=some v<->(v=5\/v=6)/\k.ae v=r
 yz:∀r x,k.tab r=some x->(x=3\/x=4)/\k.ae (arg x)=r
 PG:∀t,(t=3\/t=4)->(k.tab (k.ae (arg t))).isSome
 snd:Ref k.ae (bX F)
 ac:dj k.up
 di:∀t p w,k.up t=some (p,w)->k.ae t=k.ae p/\kq F k t p w
 top:∀a b,k.ae a=k.ae b->pk k.up a=pk k.up b
 col:(∃t p,k.up t=some (p,none))->∃c:Th->Bool,c 0=c 1/\∀t p w,k.up t=some (p,w)->(c t=c p<->w≠none)
 oZ:∀x s,s∈k.aD x->∃f∈F,f.cT=false/\s=(f.u,f.v,f.m)
 tL:∀f∈F,f.cT=false->(f.u,f.v,f.m)∈k.aD (k.ae f.u)/\(f.u,f.v,f.m)∈k.aD (k.ae f.v)
 aA:∀t v,k.aA t=some v->oY F k t v
 calm:Calm F
 size:tK k.ae (wt k)<=27+2*F.length/\∀t,wt k t<=27+2*F.length
def kq.swap{F:List Fact}{k:Core}{t:Th}(h:kq F k t p w):kq F k p t w:=by
 cases w with
 |none=>
  refine⟨?_,h.2⟩;rcases h.1 with⟨a,b⟩|⟨a,b⟩
  .exact .inr ⟨b,a⟩
  .exact .inl ⟨b,a⟩
 |some m=>obtain⟨h0,f,h1,h2,h3,h4⟩:=h;exact⟨h0,f,h1,h2,h3,h4.elim .inr .inl⟩
def kq.mono{F:List Fact}{k:Core}{t:Th}(h:kq F k t p w)(hr:k.ae 0=k.ae 1->k'.ae 0=k'.ae 1):kq F k' t p w:=by
 cases w with
 |none=>exact⟨h.1,hr h.2⟩
 |some m=>exact h
def oY.mono{F:List Fact}{k:Core}(h:oY F k t v)(hr:∀a b,k.ae a=k.ae b->k'.ae a=k'.ae b):oY F k' t v:=by
 cases v with
 |none=>exact hr _ _ h
 |some s=>exact⟨hr _ _ h.1,hr _ _ h.2.1,h.2.2⟩
section
variable{F:List Fact}
def parted_some:∀{l:List Sep} {s:Sep},parted ae a b l=some s->ae s.1=a/\ae s.2.1=b/\(s∈l\/(s.2.1,s.1,s.2.2)∈l):=by
 intro l s h;induction l with
 |nil=>cases h
 |cons x r ih=>
  rw[F8]at h;by_cases h1:ae x.1=a/\ae x.2.1=b
  .rw[if_pos h1]at h;exact bF h▸⟨h1.1,h1.2,.inl dz⟩
  .rw[if_neg h1]at h;by_cases h2:ae x.1=b/\ae x.2.1=a
   .rw[if_pos h2]at h;exact bF h▸⟨h2.2,h2.1,.inr dz⟩
   .rw[if_neg h2]at h;exact(ih h).imp id λh=>h.imp id λh=>h.imp (dM _) (dM _)
def PH(S:ez F k)(h:lu k t=some v):oY F k t v:=by
 unfold lu at h;by_cases e:k.ae (aV t).1=k.ae (aV t).2
 .rw[if_pos e,eW]at h;subst h;exact e
 .rw[if_neg e,gV]at h;obtain⟨s,hs,rfl⟩:=h;unfold rO at hs;rw[if_neg e]at hs;have key:parted k.ae (k.ae (aV t).1) (k.ae (aV t).2) (k.aD (k.ae (aV t).1))=some s->oY F k t (some s):=by
   intro hp;obtain⟨h1,h2,h3⟩:=parted_some hp;refine⟨h1.symm,h2.symm,.inr ?_⟩;rcases h3 with h3|h3
   .obtain⟨f,hf,ht,ff⟩:=S.oZ _ _ h3;exact⟨f,hf,ht,by rw[ff],.inl ⟨by rw[ff],by rw[ff]⟩⟩
   .obtain⟨f,hf,ht,ff⟩:=S.oZ _ _ h3;simp only[B']at ff;exact⟨f,hf,ht,ff.2.2.symm,.inr ⟨ff.1.symm,ff.2.1.symm⟩⟩
  cases h1:k.val (k.ae (aV t).1)with
  |none=>rw[h1]at hs;exact key hs
  |some v=>
   cases h2:k.val (k.ae (aV t).2)with
   |none=>rw[h1,h2]at hs;exact key hs
   |some w=>
    rw[h1,h2]at hs;rw[eW]at hs;subst hs;obtain⟨a1,a2⟩:=(S.val _ (S.idem _) v).mp h1;obtain⟨b1,b2⟩:=(S.val _ (S.idem _) w).mp h2;refine⟨a2.symm,b2.symm,.inl ⟨rfl, ?_⟩⟩;rcases a1 with rfl|rfl<;>rcases b1 with rfl|rfl
    .exact absurd (a2.symm.trans b2) e
    .exact .inl ⟨rfl,rfl⟩
    .exact .inr ⟨rfl,rfl⟩
    .exact absurd (a2.symm.trans b2) e
def ez.Fu(S:ez F k){td:aW->Option Told}(h:∀t v,td t=some v->oY F k t v):ez F ⟨k.ae,k.mem,k.use,k.val,k.aD,k.aS,k.up,k.tab,td⟩:={S with aA:=λt v e=>(h t v e).mono (k':=⟨k.ae,k.mem,k.use,k.val,k.aD,k.aS,k.up,k.tab,td⟩) λY Y e=>e,di:=λt p w e=>⟨(S.di t p w e).1,(S.di t p w e).2.mono λe=>e⟩}
def ahZ(S:ez F H.k)(t:aW):ez F (bw H t).k:=by
 unfold bw;split
 .exact S
 .split
  .exact S
  .rename_i v hv;refine S.Fu λx w e=> ?_;by_cases hx:x=t
   .rw[hx,bK,eW]at e;subst e;rw[hx];exact PH S hv
   .rw[bO hx]at e;exact S.aA x w e
def Hh(l:List aW):∀H:aB,(tells H l).k.ae=H.k.ae:=by
 induction l with
 |nil=>intro H;rfl
 |cons t r ih=>intro H;exact(ih _).trans (yt H t)
def PJ(l:List aW):∀H:aB,(tells H l).aN=H.aN:=by
 induction l with
 |nil=>intro H;rfl
 |cons t r ih=>intro H;exact(ih _).trans (GZ H t)
structure Join(F:List Fact)(H:aB)(l r:Th)(w:bR):Prop where
 S:ez F H.k
 ne:H.k.ae l≠H.k.ae r
 Ci:bX F l=bX F r
 di:kq F H.k l r w
def Join.swap(J:Join F H l r w):Join F H r l w:=⟨J.S,b0 J.ne,J.Ci.symm,J.di.swap⟩
abbrev cx(ae:Th->Th)(l r:Th):Th->Th:=λt=>if ae t=ae l then ae r else ae t
def PK(S:ez F H.k):gO H.k.ae (H.k.ae r) (H.k.mem (H.k.ae l))=cx H.k.ae l r:=by
 funext t;rw[He];unfold cx;have:=S.mem _ (S.idem l) t;by_cases h:H.k.ae t=H.k.ae l
 .rw[if_pos h,if_pos (this.mpr h)]
 .rw[if_neg h,if_neg (λe=>h (this.mp e))]
def PL(J:Join F H l r w):Ref (cx H.k.ae l r) (bX F):=by
 have key:∀x,∃z,H.k.ae z=cx H.k.ae l r x/\bX F z=bX F x:=by
  intro x;unfold cx;by_cases h:H.k.ae x=H.k.ae l
  .rw[if_pos h];exact⟨r,rfl,by rw[<-J.Ci];exact(J.S.snd _ _ h).symm⟩
  .rw[if_neg h];exact⟨x,rfl,rfl⟩
 intro x y e;obtain⟨z,h1,h2⟩:=key x;obtain⟨v,h3,h4⟩:=key y;rw[<-h2,<-h4];exact J.S.snd _ _ (by rw[h1,h3,e])
def nM(k:Core)(t:Th):(k.mem t).length<=wt k t/\(k.use t).length<=wt k t/\(k.aD t).length<=wt k t/\(k.aS t).length<=wt k t:=⟨dC af (.add (.add cI av) bo) [] rfl,dC af (.add (.add (.add ak af) av) bo) [] rfl,dC af (.add (.add ie af) bo) [] rfl,dC af (.add (.add ie bo) af) [] rfl⟩
def Join.ok(J:Join F H l r w)(hF:F.length<=20)(hT:H.b.cN.length+H.aU.length<=2000)(hN:H.bk.length<=2000)(hQ:H.aN.length<=2000):mw H l r:=by
 have S:=J.S;have hB:=λt=>by have:=S.size.2 t;exact aG ak nT [.l af (.num 20),.l af (.num 20),.l ak (.add iO (.mulL 2 af))] rfl hF hF this
 refine⟨S.ac,J.ne,λt ht=>((S.use _ (S.idem l) t).mp ht).1, ?_,λs hs=> ?_,λt=>by have:=hB t;have:=(nM H.k t).1;(exact aG ak cK [.l af nT,.l ak af] rfl (by assumption) this),λt=>by have:=hB t;have:=(nM H.k t).2.1;(exact aG ak cK [.l af nT,.l ak af] rfl (by assumption) this),λt=>by have:=hB t;have:=(nM H.k t).2.2.1;(exact aG ak nS [.l af nT,.l ak af] rfl (by assumption) this),λt=>by have:=hB t;have:=(nM H.k t).2.2.2;(exact aG ak nS [.l af nT,.l ak af] rfl (by assumption) this),hT,hN,hQ⟩
 .cases h1:H.k.val (H.k.ae l)with
  |none=>exact .inl rfl
  |some v=>
   cases h2:H.k.val (H.k.ae r)with
   |none=>exact .inr rfl
   |some w=>
    exfalso;obtain⟨a1,a2⟩:=(S.val _ (S.idem _) v).mp h1;obtain⟨b1,b2⟩:=(S.val _ (S.idem _) w).mp h2;have hv:bX F v=bX F w:=by rw[S.snd _ _ a2,S.snd _ _ b2,J.Ci]
    rcases a1 with rfl|rfl<;>rcases b1 with rfl|rfl
    .exact J.ne (a2.symm.trans b2)
    .exact S.calm.num hv
    .exact S.calm.num hv.symm
    .exact J.ne (a2.symm.trans b2)
 .rw[PK S];intro e;obtain⟨f,hf,ht,rfl⟩:=S.oZ _ _ hs;exact S.calm.sep f hf ht (PL J _ _ e)
end
end
variable{A:Prop}
section
abbrev KJ(k:Core)(l r:Th)(w:bR):Core:=
 ⟨cx k.ae l r,upd k.mem (k.ae r) (k.mem (k.ae r)++k.mem (k.ae l)),upd k.use (k.ae r) (k.use (k.ae r)++k.use (k.ae l)),if(k.val (k.ae r)).isNone then upd k.val (k.ae r) (k.val (k.ae l))else k.val,upd k.aD (k.ae r) (k.aD (k.ae r)++k.aD (k.ae l)),upd k.aS (k.ae r) (k.aS (k.ae r)++k.aS (k.ae l)),upd (cw k.up l) l (some (r,w)),upd (upd k.tab (k.ae l) none) (k.ae r) ((k.tab (k.ae r)).or (k.use (k.ae l)).head?),k.aA⟩
section
variable{F:List Fact}
def Cj(S:ez F k)(t:Th):k.ae (pk k.up t)=k.ae t:=by
 refine S.ac.ind (P:=λt=>k.ae (pk k.up t)=k.ae t) (λt e=>by rw[mj S.ac e]) (λt e he ih=> ?_) t;rw[pk_some S.ac he,ih];obtain⟨p,w⟩:=e;exact(S.di t p w he).1.symm
def Hi(S:ez F k)(a b:Th):pk k.up a=pk k.up b<->k.ae a=k.ae b:=⟨λe=>by rw[<-Cj S a,<-Cj S b,e],S.top a b⟩
def f9(x:Th):cx ae l r x=if ae x=ae l then ae r else ae x:=rfl
def rS(e:ae a=ae b):cx ae l r a=cx ae l r b:=by rw[f9,f9,e]
variable(J:Join F H l r w)
include J
def ah0:cx H.k.ae l r x=x<->H.k.ae x=x/\x≠H.k.ae l:=by
 have S:=J.S;rw[f9];by_cases h:H.k.ae x=H.k.ae l
 .rw[if_pos h];constructor
  .intro e;rw[<-e,S.idem]at h;exact absurd h.symm J.ne
  .intro bz;obtain⟨h1,h2⟩:=bz;rw[h1]at h;exact absurd h h2
 .rw[if_neg h];constructor
  .intro e;exact⟨e,λe2=>h (by rw[e2,S.idem])⟩
  .exact λe=>e.1
def vL(hy:y≠H.k.ae l):cx H.k.ae l r x=y<->H.k.ae x=y\/(y=H.k.ae r/\H.k.ae x=H.k.ae l):=by
 rw[f9];by_cases h:H.k.ae x=H.k.ae l
 .rw[if_pos h];constructor
  .intro e;exact .inr ⟨e.symm,h⟩
  .rintro(e|⟨e,_⟩)
   .rw[h]at e;exact absurd e.symm hy
   .exact e.symm
 .rw[if_neg h];constructor
  .exact .inl
  .rintro(e|⟨_,e⟩)
   .exact e
   .exact absurd e h
def PM:pk (cw H.k.up l) r=pk H.k.up r/\pk (cw H.k.up l) r≠l:=by have S:=J.S;rw[Ha S.ac,if_neg (λe=>J.ne ((Hi S r l).mp e).symm)];refine⟨rfl,λe=> ?_⟩;have:=Cj S r;rw[e]at this;exact J.ne this
def PN:dj (upd (cw H.k.up l) l (some (r,w))):=by
 have S:=J.S;have hA:=yw S.ac l;obtain⟨d,hd⟩:=id hA;obtain⟨_,hr⟩:=PM J;refine⟨λx=>if pk (cw H.k.up l) x=l then d x+d r+1 else d x,λx e he=> ?_⟩;by_cases hx:x=l
 .subst hx;rw[bK,eW]at he;subst he;simp only[if_neg hr,mj hA (oX S.ac x)]
  exact aG az (.add (.add ak af) aX) [] rfl
 .rw[bO hx]at he;have h1:=hd x e he;simp only[pk_some hA he];split<;>lia
def PO(x:Th):pk (upd (cw H.k.up l) l (some (r,w))) x=if H.k.ae x=H.k.ae l then pk H.k.up r else pk H.k.up x:=by
 have S:=J.S;have hA:=yw S.ac l;have hB:=PN J;obtain⟨qx,hr⟩:=PM J;have h1:∀x,pk (cw H.k.up l) x≠l->pk (upd (cw H.k.up l) l (some (r,w))) x=pk (cw H.k.up l) x:=by
  intro x;refine hA.ind (P:=λx=>pk (cw H.k.up l) x≠l->pk (upd (cw H.k.up l) l (some (r,w))) x=pk (cw H.k.up l) x) (λx e hx=> ?_) (λx e he ih hx=> ?_) x
  .rw[mj hA e]at hx⊢;exact mj hB (Fq (bO hx) e)
  .have Hj:x≠l:=by rintro rfl;rw[oX S.ac]at he;cases he
   rw[pk_some hA he]at hx⊢;rw[pk_some hB (show upd (cw H.k.up l) l (some (r,w)) x=some e by rw[bO Hj];exact he)];exact ih hx
 have h2:∀x,pk (cw H.k.up l) x=l->pk (upd (cw H.k.up l) l (some (r,w))) x=pk H.k.up r:=by
  intro x;refine hA.ind (P:=λx=>pk (cw H.k.up l) x=l->pk (upd (cw H.k.up l) l (some (r,w))) x=pk H.k.up r) (λx e hx=> ?_) (λx e he ih hx=> ?_) x
  .rw[mj hA e]at hx;subst hx;rw[pk_some hB (show upd (cw H.k.up x) x (some (r,w)) x=some (r,w)from bK),h1 r hr,qx]
  .have Hj:x≠l:=by rintro rfl;rw[oX S.ac]at he;cases he
   rw[pk_some hA he]at hx;rw[pk_some hB (show upd (cw H.k.up l) l (some (r,w)) x=some e by rw[bO Hj];exact he)];exact ih hx
 by_cases h:H.k.ae x=H.k.ae l
 .rw[if_pos h];refine h2 x ?_;rw[Ha S.ac,if_pos ((Hi S x l).mpr h)]
 .rw[if_neg h];have ht:pk (cw H.k.up l) x=pk H.k.up x:=by rw[Ha S.ac,if_neg (λe=>h ((Hi S x l).mp e))]
  rewrite [h1 x ?_,ht]
  .rfl
  rw[ht];intro e;have:=Cj S x;rw[e]at this;exact h this.symm
omit J in
def ah1{p:Prop}(h:¬p):A<->A\/(p/\B):=⟨.inl,λq=>q.elim id λq=>absurd q.1 h⟩
omit J in
def ah2{g:α}:(A\/B)<->A\/(g=g/\B):=⟨λq=>q.imp id λb=>⟨rfl,b⟩,λq=>q.imp id It⟩
omit J in
def ah3{g:α}:(C/\A\/C/\B)<->C/\(A\/(g=g/\B)):=⟨λq=>q.elim (λq=>⟨q.1,.inl q.2⟩) λq=>⟨q.1,.inr ⟨rfl,q.2⟩⟩,λq=>q.2.elim (λa=>.inl ⟨q.1,a⟩) λb=>.inr ⟨q.1,b.2⟩⟩
omit J in
def PR{p:Prop}(h:¬p):C/\A<->C/\(A\/(p/\B)):=⟨λq=>⟨q.1,.inl q.2⟩,λq=>⟨q.1,q.2.elim id λb=>absurd b.1 h⟩⟩
def ah4(h1:H.k.ae x=x)(v:Th):(if(H.k.val (H.k.ae r)).isNone then upd H.k.val (H.k.ae r) (H.k.val (H.k.ae l))else H.k.val) x=some v<->(v=5\/v=6)/\(H.k.ae v=x\/(x=H.k.ae r/\H.k.ae v=H.k.ae l)):=by
 have S:=J.S;have hg:=S.idem r;by_cases h:x=H.k.ae r
 .rw[h];cases e:H.k.val (H.k.ae r)with
  |none=>show upd H.k.val (H.k.ae r) (H.k.val (H.k.ae l)) (H.k.ae r)=some v<->_;rw[bK,S.val _ (S.idem l)];exact⟨λq=>⟨q.1,.inr ⟨rfl,q.2⟩⟩,λq=>⟨q.1,q.2.elim (λb=>noSN ((e.symm.trans ((S.val _ hg v).mpr ⟨q.1,b⟩)).symm)) It⟩⟩
  |some y=>
   show H.k.val (H.k.ae r)=some v<->_;rw[S.val _ hg];refine⟨λq=>⟨q.1,.inl q.2⟩,λq=>⟨q.1,q.2.elim id λb=>False.elim ?_⟩⟩;obtain⟨a',b'⟩:=(S.val _ hg y).mp e;have hv:bX F v=bX F y:=by rw[S.snd _ _ b.2,S.snd _ _ b',J.Ci]
   have PS:v≠y:=λe=>J.ne (b.2.symm.trans (e▸b'));rcases q.1 with a|a<;>rcases a' with a'|a'
   .exact PS (a.trans a'.symm)
   .rw[a,a']at hv;exact S.calm.num hv
   .rw[a,a']at hv;exact S.calm.num hv.symm
   .exact PS (a.trans a'.symm)
 .have:(if(H.k.val (H.k.ae r)).isNone then upd H.k.val (H.k.ae r) (H.k.val (H.k.ae l))else H.k.val) x=H.k.val x:=by
   split
   .rw[bO h]
   .rfl
  rw[this,S.val x h1];exact PR h
def Hk{t:Th}{w':bR}(he:upd (cw H.k.up l) l (some (r,w)) t=some (p,w')):(t=l/\p=r/\w'=w)\/(H.k.up t=some (p,w')\/H.k.up p=some (t,w')):=by
 by_cases ht:t=l
 .rw[ht,bK]at he;have he:=gb (bF he);exact .inl ⟨ht,he.1.symm,he.2.symm⟩
 .rw[bO ht]at he;exact .inr (Pu J.S.ac l he)
omit J in
def ah5{l r:Th} [Decidable A] (h:A/\c l≠c r):(if A/\c l≠c r then !c l else c l)=c r:=by
 rw[if_pos h];have:=h.2;revert this;cases c l<;>cases c r<;>intro h<;>first|rfl|exact absurd rfl h
omit J in
def ah6{a b:Bool} [Decidable A]:((if A then !a else a)=(if A then !b else b))<->a=b:=by
 split
 .cases a<;>cases b<;>decide
 .exact yA
def ah7:(∃t p,upd (cw H.k.up l) l (some (r,w)) t=some (p,none))->∃c:Th->Bool,c 0=c 1/\∀t p w',upd (cw H.k.up l) l (some (r,w)) t=some (p,w')->(c t=c p<->w'≠none):=by
 intro bz;have S:=J.S;have ba:=J.ne;have PT:∀{t p:Th} {w':bR},(H.k.up t=some (p,w')\/H.k.up p=some (t,w'))->H.k.ae t=H.k.ae p:=λhh=>hh.elim (λhh=>(S.di _ _ _ hh).1) λhh=>(S.di _ _ _ hh).1.symm;by_cases hold:∃t p,H.k.up t=some (p,none)
 .obtain⟨c,hc,yB⟩:=S.col hold;obtain⟨t1,p1,zV⟩:=hold;obtain⟨qx,fS,dK⟩:=S.di _ _ _ zV;have tM:=fS.elim (λh=>by rw[h.1,h.2]at qx;exact qx) λh=>by rw[h.1,h.2]at qx;exact qx.symm
  have hw:w≠none:=λe=>by
   have:=J.di;rw[e]at this;rcases this.1 with h|h<;>rw[h.1,h.2]at ba
   .exact ba tM
   .exact ba tM.symm
  refine⟨λx=>if H.k.ae x=H.k.ae l/\c l≠c r then !c x else c x, ?_,λt p w' he=> ?_⟩
  .show(if H.k.ae 0=H.k.ae l/\c l≠c r then !c 0 else c 0)=if H.k.ae 1=H.k.ae l/\c l≠c r then !c 1 else c 1
   rw[dK,hc]
  .show((if H.k.ae t=H.k.ae l/\c l≠c r then !c t else c t)=if H.k.ae p=H.k.ae l/\c l≠c r then !c p else c p)<->_;rcases Hk J he with⟨e1,e2,e3⟩|hh
   .rw[e1,e2,e3,if_neg (show¬(H.k.ae r=H.k.ae l/\c l≠c r)from λh=>ba h.1.symm)];refine⟨λY=>hw,λY=> ?_⟩;by_cases h:c l=c r
    .rw[if_neg λq=>q.2 h];exact h
    .exact ah5 ⟨rfl,h⟩
   .rw[PT hh];exact ah6.trans (hh.elim (λhh=>yB _ _ _ hh) λhh=>eq_comm.trans (yB _ _ _ hh))
 .have um:∀{t p:Th},¬(H.k.up t=some (p,none)\/H.k.up p=some (t,none)):=λh=>h.elim (λh=>hold ⟨_,_,h⟩) λh=>hold ⟨_,_,h⟩;obtain⟨t0,p0,he0⟩:=bz;have hw:=(Hk J he0).elim (λh=>h.2.2.symm) λh=>(um h).elim;refine⟨λx=>decide (H.k.ae x=H.k.ae l), ?_,λt p w' he=> ?_⟩
  .have:=J.di;rw[hw]at this;show decide (H.k.ae 0=H.k.ae l)=decide (H.k.ae 1=H.k.ae l);rw[this.2]
  .show decide (H.k.ae t=H.k.ae l)=decide (H.k.ae p=H.k.ae l)<->_;rcases Hk J he with⟨e1,e2,e3⟩|hh
   .rw[e1,e2,e3,hw,decide_eq_true rfl,decide_eq_false (b0 ba)];exact⟨λh=>cu h,λh=>absurd rfl h⟩
   .rw[PT hh];exact⟨λY e=>um (e▸hh),λY=>rfl⟩
def ah8:ez F (KJ H.k l r w):=by
 have S:=J.S;have hs:=S.idem l;have hg:=S.idem r;have ba:=J.ne;have fix:∀{x:Th},cx H.k.ae l r x=x<->H.k.ae x=x/\x≠H.k.ae l:=ah0 J;refine⟨λt=> ?_,λx hx t=> ?_,λx hx t=> ?_,λx hx=> ?_,λx hx v=> ?_,λx y jb=> ?_,λt ht=> ?_,PL J,PN J,λt p w' he=> ?_,λa b e=> ?_, ?_,λx s hx=> ?_,λf hf ht=> ?_,λt v e=>(S.aA t v e).mono (λa b e=>rS e),S.calm, ?_⟩
 .show cx _ l r (cx _ l r t)=cx _ l r t;rw[fix,f9];by_cases h:H.k.ae t=H.k.ae l
  .rw[if_pos h];exact⟨hg,b0 ba⟩
  .rw[if_neg h];exact⟨S.idem t,h⟩
 .obtain⟨h1,h2⟩:=fix.mp hx;show t∈upd _ _ _ x<->cx _ l r t=x;rw[vL J h2];by_cases h:x=H.k.ae r
  .rw[h,bK,dA,S.mem _ hg,S.mem _ hs];exact ah2
  .rw[bO h,S.mem x h1];exact ah1 h
 .obtain⟨h1,h2⟩:=fix.mp hx;show t∈upd _ _ _ x<->_/\cx _ l r (arg t)=x;rw[vL J h2];by_cases h:x=H.k.ae r
  .rw[h,bK,dA,S.use _ hg,S.use _ hs];exact ah3
  .rw[bO h,S.use x h1];exact PR h
 .obtain⟨h1,h2⟩:=fix.mp hx;show List.Nodup (upd H.k.use (H.k.ae r) (H.k.use (H.k.ae r)++H.k.use (H.k.ae l)) x);by_cases h:x=H.k.ae r
  .rw[h,bK];exact j5.mpr ⟨S.yy _ hg,S.yy _ hs,λa ha b hb e=>ba (((S.use _ hs a).mp (e▸hb)).2.symm.trans ((S.use _ hg a).mp ha).2)⟩
  .rw[bO h];exact S.yy x h1
 .obtain⟨h1,h2⟩:=fix.mp hx;show(if(H.k.val (H.k.ae r)).isNone then upd H.k.val (H.k.ae r) (H.k.val (H.k.ae l))else H.k.val) x=some v<->_/\cx _ l r v=x;rw[vL J h2];exact ah4 J h1 v
 .have jb:upd (upd H.k.tab (H.k.ae l) none) (H.k.ae r) ((H.k.tab (H.k.ae r)).or (H.k.use (H.k.ae l)).head?) x=some y:=jb;show _/\cx _ l r (arg y)=x;by_cases h:x=H.k.ae r
  .rw[h,bK]at jb;rw[h];rw[vL J (b0 ba)];cases e:H.k.tab (H.k.ae r)with
   |some o=>
    rw[e,PU]at jb;rw[<-bF jb];obtain⟨a,b⟩:=S.yz _ _ e;exact⟨a,.inl b⟩
   |none=>
    rw[e,PV]at jb;have hm:=ah9 (ah'.mpr jb);obtain⟨a,b⟩:=(S.use _ hs y).mp hm;exact⟨a,.inr ⟨rfl,b⟩⟩
  .rw[bO h]at jb;by_cases h2:x=H.k.ae l
   .rw[h2,bK]at jb;cases jb
   .rw[bO h2]at jb;obtain⟨a,b⟩:=S.yz _ _ jb;exact⟨a,(vL J h2).mpr (.inl b)⟩
 .show(upd (upd H.k.tab (H.k.ae l) none) (H.k.ae r) ((H.k.tab (H.k.ae r)).or (H.k.use (H.k.ae l)).head?) (cx H.k.ae l r (arg t))).isSome;have h2:=S.PG t ht;by_cases h:H.k.ae (arg t)=H.k.ae l
  .rw[f9,if_pos h,bK];have hm:t∈H.k.use (H.k.ae l):=(S.use _ hs t).mpr ⟨ht,h⟩;cases hu:H.k.use (H.k.ae l)with
   |nil=>rw[hu]at hm;cases hm
   |cons a b=>cases H.k.tab (H.k.ae r)<;>simp
  .rw[f9,if_neg h];by_cases h3:H.k.ae (arg t)=H.k.ae r
   .rw[h3,bK];rw[h3]at h2;cases e:H.k.tab (H.k.ae r)with
    |none=>rw[e]at h2;cases h2
    |some o=>rfl
   .rw[bO h3,bO h];exact h2
 .have he:upd (cw H.k.up l) l (some (r,w)) t=some (p,w'):=he;show cx _ l r t=cx _ l r p/\kq F _ t p w';by_cases ht:t=l
  .rw[ht,bK]at he;have he:=gb (bF he);rw[ht,<-he.1,<-he.2];refine⟨?_,J.di.mono λe=>rS e⟩;rw[f9,f9,if_pos rfl,if_neg (b0 ba)]
  .rw[bO ht]at he;rcases Pu S.ac l he with e|e
   .obtain⟨a,b⟩:=S.di _ _ _ e;exact⟨rS a,b.mono λe=>rS e⟩
   .obtain⟨a,b⟩:=S.di _ _ _ e;exact⟨rS a.symm,b.swap.mono λe=>rS e⟩
 .have e:cx H.k.ae l r a=cx H.k.ae l r b:=e;show pk (upd (cw H.k.up l) l (some (r,w))) a=pk (upd (cw H.k.up l) l (some (r,w))) b;rw[PO J,PO J];rw[f9,f9]at e;by_cases h1:H.k.ae a=H.k.ae l<;>by_cases h2:H.k.ae b=H.k.ae l
  .rw[if_pos h1,if_pos h2]
  .rw[if_pos h1,if_neg h2]at e⊢;exact S.top _ _ e
  .rw[if_neg h1,if_pos h2]at e⊢;exact S.top _ _ e
  .rw[if_neg h1,if_neg h2]at e⊢;exact S.top _ _ e
 .exact ah7 J
 .have hx:s∈upd H.k.aD (H.k.ae r) (H.k.aD (H.k.ae r)++H.k.aD (H.k.ae l)) x:=hx;by_cases h:x=H.k.ae r
  .subst h;rw[bK]at hx;rcases dA.mp hx with hx|hx
   .exact S.oZ _ _ hx
   .exact S.oZ _ _ hx
  .rw[bO h]at hx;exact S.oZ _ _ hx
 .have key:∀y,(f.u,f.v,f.m)∈H.k.aD (H.k.ae y)->(f.u,f.v,f.m)∈upd H.k.aD (H.k.ae r) (H.k.aD (H.k.ae r)++H.k.aD (H.k.ae l)) (cx H.k.ae l r y):=by
   intro y hy;rw[f9];by_cases h:H.k.ae y=H.k.ae l
   .rw[if_pos h,bK];rw[h]at hy;exact tI _ hy
   .rw[if_neg h];by_cases h2:H.k.ae y=H.k.ae r
    .rw[h2,bK];rw[h2]at hy;exact gT _ hy
    .rw[bO h2];exact hy
  obtain⟨a,b⟩:=S.tL f hf ht;exact⟨key _ a,key _ b⟩
 .have hw:wt (KJ H.k l r w)=upd (wt H.k) (H.k.ae r) (wt H.k (H.k.ae r)+wt H.k (H.k.ae l)):=by
   funext t;unfold wt KJ;simp only;by_cases h:t=H.k.ae r
   .rw[h];simp only[bK,bM];exact dU (lg (.branch 4 (.branch 2 (.branch 1 (.leaf _) (.leaf _)) (.branch 3 (.leaf _) (.leaf _))) (.branch 6 (.branch 5 (.leaf _) (.leaf _)) (.branch 7 (.leaf _) (.leaf _)))) (.add (.add (.add cI nQ) (.add cX lE)) (.add qF qG)) (.add (.add (.add kx cX) qF) (.add (.add (.add ak bo) lE) qG)) [] rfl) (lg (.branch 4 (.branch 2 (.branch 1 (.leaf _) (.leaf _)) (.branch 3 (.leaf _) (.leaf _))) (.branch 6 (.branch 5 (.leaf _) (.leaf _)) (.branch 7 (.leaf _) (.leaf _)))) (.add (.add (.add cI av) bo) (.add (.add (.add cX lE) qF) qG)) (.add (.add (.add (.add af cX) (.add ak lE)) (.add av qF)) (.add bo qG)) [] rfl)
   .simp only[bO h]
  obtain⟨z1,z2⟩:=ahY (f:=wt H.k) hs hg ba;obtain⟨y1,y2⟩:=S.size;rw[hw];refine⟨?_,λt=> ?_⟩
  .rw[<-z1]at y1;exact y1
  .by_cases h:t=H.k.ae r
   .rw[h,bK];exact dC cI (.add iO (.mulL 2 bo)) [.l cI av,.l av (.add iO (.mulL 2 bo))] rfl z2 y1
   .rw[bO h];exact y2 t
end
end
section
abbrev fk(k:Core):Nat:=(fZ.filter λt=>(k.aA t).isSome).length
def aia(k:Core):fk k<=9:=jU ..
structure GH(F:List Fact)(n:Nat)(H:aB):Prop where
 S:ez F H.k
 nN:H.bk.Nodup
 nw:∀t,t∈H.bk<->(H.k.aA t).isSome
 tb:H.aU.length<=fk H.k+n
 cN:H.b.cN.length<=100
def GH.bk{F:List Fact}{n:Nat}{H:aB}(G:GH F n H):H.bk.length<=9:=oK G.nN
def GH.aU{F:List Fact}{n:Nat}{H:aB}(G:GH F n H):H.b.cN.length+H.aU.length<=109+n:=by have:=G.tb;have:=aia H.k;have:=G.cN;exact dC (.add bo af) (.add (.num 109) av) [.l af ie,.l ak ig,.l bo cK] rfl (by assumption) (by assumption) this
def GH.weaken{F:List Fact}{n:Nat}{H:aB}(G:GH F n H)(h:n<=n'):GH F n' H:={G with tb:=by have:=G.tb;(exact dC av (.add bo ak) [.l af ak,.l av (.add bo af)] rfl h this)}
section
variable{F F':List Fact}
private def Hl(G:GH F n H)(t:aW):GH F n (bw H t):=by
 refine⟨ahZ G.S t, ?_, ?_, ?_,by rw[Gn];exact G.cN⟩
 all_goals unfold bw
 all_goals split
 .exact G.nN
 .rename_i h;split
  .exact G.nN
  .refine j5.mpr ⟨G.nN,by simp,λa ha b hb e=> ?_⟩;rw[bV]at hb;subst hb;subst e;exact h ((G.nw _).mp ha)
 .exact G.nw
 .split
  .exact G.nw
  .intro x;show x∈H.bk++[t]<->(upd H.k.aA t _ x).isSome;by_cases hx:x=t
   .rw[hx];simp[bK]
   .rw[bO hx,dA,G.nw x];simp[hx]
 .exact G.tb
 .rename_i h;split
  .exact G.tb
  .rename_i v hv;have h1:fk H.k<(fZ.filter λx=>(upd H.k.aA t (some v) x).isSome).length:=by
    refine filter_lt (a:=t) (λx hx=> ?_) (by simpa using h) (by simp[bK]) fZ (Fn t);by_cases e:x=t
    .rw[e];simp[bK]
    .rw[bO e];exact hx
   rw[bM];exact dC bD (.add ak bo) [.l az ak,.l av (.add af bo)] rfl h1 G.tb
def PW(l:List aW):∀{H:aB},GH F n H->GH F n (tells H l):=by
 induction l with
 |nil=>intro H G;exact G
 |cons t r ih=>intro H G;exact ih (Hl G t)
def PX{l:List Th}(hn:l.Nodup)(h:∀t∈l,t=3\/t=4):l.length<=2:=show l.length<=([3,4]:List Th).length from hn.length_le_of_subset λt ht=>bU.mpr ((h t ht).imp id bV.mpr)
abbrev XJ(H:aB)(l r:Th)(w:bR):aB:=yb (iI (dT H l r w) (H.k.use (H.k.ae l))) (H.k.ae l) (H.k.ae r) (H.k.use (H.k.ae l))
def aib(H:aB)(l r:Th)(w:bR):XJ H l r w=i7 (lA (iI (dT H l r w) (H.k.use (H.k.ae l))) (H.k.ae l) (H.k.ae r)) (H.k.use (H.k.ae l)):=rfl
structure XOk(F:List Fact)(H:aB)(l r:Th)(w:bR):Prop where
 k:(XJ H l r w).k=KJ H.k l r w
 b:(XJ H l r w).b=H.b
 bk:(XJ H l r w).bk=H.bk
 bt:(XJ H l r w).bt=H.bt
 aU:(XJ H l r w).aU.length<=H.aU.length+6
 aN:(XJ H l r w).aN=H.aN++rR (cx H.k.ae l r) ((H.k.tab (H.k.ae r)).or (H.k.use (H.k.ae l)).head?) (H.k.use (H.k.ae l))
 ext:Ext H (XJ H l r w)
def aic(J:Join F H l r w)(hF:F.length<=20):XOk F H l r w:=by
 have S:=J.S;have hs:=S.idem l;have i8:∀t∈H.k.use (H.k.ae l),(t=3\/t=4)/\H.k.ae (arg t)=H.k.ae l:=λt ht=>(S.use _ hs t).mp ht;have uw:=PX (S.yy _ hs) λt ht=>(i8 t ht).1;have hB:∀t,wt H.k t<=67:=λt=>by have:=S.size.2 t;exact aG ak nT [.l af (.num 20),.l af (.num 20),.l ak (.add iO (.mulL 2 af))] rfl hF hF this
 have h2:=Gp (H.k.use (H.k.ae l)) (dT H l r w);have h2t:=ahV (s:=H.k.ae l) (H.k.use (H.k.ae l)) (dT H l r w) (λt ht=>(i8 t ht).2) (λx hx=>(S.use _ hs x).mpr (S.yz _ _ hx));have h2e:=ahR (H.k.use (H.k.ae l)) (dT H l r w);have h1e:=ahT S.ac l r w;have x1:(dT H l r w).aU.length=H.aU.length+1:=by unfold dT;simp
 have k1:(dT H l r w).k=⟨H.k.ae,H.k.mem,H.k.use,H.k.val,H.k.aD,H.k.aS,upd (cw H.k.up l) l (some (r,w)),H.k.tab,H.k.aA⟩:=rfl;have q1:(dT H l r w).b=H.b/\(dT H l r w).bk=H.bk/\(dT H l r w).bt=H.bt/\(dT H l r w).aN=H.aN:=⟨rfl,rfl,rfl,rfl⟩;generalize hH1:dT H l r w=H1 at*;obtain⟨a2,b2,c2⟩:=h2;generalize hH2:iI H1 (H.k.use (H.k.ae l))=H2 at*;have PY:H2.k.ae=H.k.ae:=by rw[a2.ae,k1]
 have Hm:H2.k.mem=H.k.mem:=by rw[a2.mem,k1]
 have PZ:H2.k.use=H.k.use:=by rw[a2.use,k1]
 have aid:H2.k.val=H.k.val:=by rw[a2.val,k1]
 have P0:H2.k.aD=H.k.aD:=by rw[a2.aD,k1]
 have Qa:H2.k.aS=H.k.aS:=by rw[a2.aS,k1]
 have aie:H2.k.up=upd (cw H.k.up l) l (some (r,w)):=by rw[a2.up,k1]
 have aif:H2.k.aA=H.k.aA:=by rw[a2.aA,k1]
 have aih:H2.k.tab=upd H.k.tab (H.k.ae l) none:=by rw[h2t,k1]
 have h3e:=ahU (H:=H2) (s:=H.k.ae l) (g:=H.k.ae r) J.ne (λt=>by rw[Hm,PY];exact S.mem _ hs t) (λt=>by
  rw[Hm,PZ,P0,Qa];have:=hB t;obtain⟨w1,w2,w3,w4⟩:=nM H.k t;exact⟨by exact aG ak qH [.l af nT,.l ak af] rfl this w1,by exact aG ak qH [.l af nT,.l ak af] rfl this w2,by exact aG ak qH [.l af nT,.l ak af] rfl this w3,by exact aG ak qH [.l af nT,.l ak af] rfl this w4⟩)
 have k3:=Hf H2 (H.k.ae l) (H.k.ae r);have t3:=PD H2 (H.k.ae l) (H.k.ae r);have q3:=PE H2 (H.k.ae l) (H.k.ae r);rw[PY,Hm,PZ,aid,P0,Qa,aie,aif,aih,PK S]at k3;have hX:XJ H l r w=i7 (lA H2 (H.k.ae l) (H.k.ae r)) (H.k.use (H.k.ae l)):=by rw[aib,hH1,hH2]
 generalize hH3:lA H2 (H.k.ae l) (H.k.ae r)=H3 at*;have h4:=Gq (H.k.use (H.k.ae l)) H3;have Hn:=ahW (g:=H.k.ae r) (H.k.use (H.k.ae l)) H3 (λt ht=>by rw[k3];show cx _ l r (arg t)=_;rw[f9,if_pos (i8 t ht).2]);have Qb:=ahS (H.k.use (H.k.ae l)) H3;rw[<-hX]at h4 Hn Qb;obtain⟨a4,b4,c4⟩:=h4;have uY:upd H.k.tab (H.k.ae l) none (H.k.ae r)=H.k.tab (H.k.ae r):=bO (b0 J.ne);refine⟨?_, ?_, ?_, ?_, ?_, ?_,((h1e.trans h2e).trans h3e).trans Qb⟩
 .refine Core.ext' ?_ ?_ ?_ ?_ ?_ ?_ ?_ ?_ ?_
  .rw[a4.ae,k3];rfl
  .rw[a4.mem,k3];rfl
  .rw[a4.use,k3];rfl
  .rw[a4.val,k3];rfl
  .rw[a4.aD,k3];rfl
  .rw[a4.aS,k3];rfl
  .rw[a4.up,k3];rfl
  .rw[Hn.1,k3];show upd (upd H.k.tab (H.k.ae l) none) (H.k.ae r) (Option.or (upd H.k.tab (H.k.ae l) none (H.k.ae r)) (H.k.use (H.k.ae l)).head?)=_;rw[uY];rfl
  .rw[a4.aA,k3];rfl
 .rw[a4.b,q3.1,a2.b,q1.1]
 .rw[a4.bk,q3.2.2.2,a2.bk,q1.2.1]
 .rw[a4.bt,q3.2.1,a2.bt,q1.2.2.1]
 .rw[t3,bM]at b4;exact mE cX (.add av o8) [.l af dw,.l af dw,.e ak bD,.l bo (.add ak af),.l cX (.add lF af)] rfl uw uw x1 b2 b4
 .rw[Hn.2,q3.2.2.1,c2,q1.2.2.2,k3];show _++rR (cx H.k.ae l r) (Option.or (upd H.k.tab (H.k.ae l) none (H.k.ae r)) (H.k.use (H.k.ae l)).head?) (H.k.use (H.k.ae l))=_;rw[uY]
structure Qc(F:List Fact)(k':Core)(ps:List (Th×Th×bR)):Prop where
 len:ps.length<=2
 ok:∀q∈ps,kq F k' q.1 q.2.1 q.2.2/\q.2.2=none/\k'.ae 3≠k'.ae 4
def aii(J:Join F H l r w):
 Qc F (KJ H.k l r w) (rR (cx H.k.ae l r) ((H.k.tab (H.k.ae r)).or (H.k.use (H.k.ae l)).head?) (H.k.use (H.k.ae l)))/\((H.k.ae 0=H.k.ae 1->H.k.ae 3=H.k.ae 4\/((l=3/\r=4)\/(l=4/\r=3)))->cx H.k.ae l r 0=cx H.k.ae l r 1->cx H.k.ae l r 3=cx H.k.ae l r 4\/rR (cx H.k.ae l r) ((H.k.tab (H.k.ae r)).or (H.k.use (H.k.ae l)).head?) (H.k.use (H.k.ae l))≠[]):=by
 have S:=J.S;have hs:=S.idem l;have i8:∀t∈H.k.use (H.k.ae l),(t=3\/t=4)/\H.k.ae (arg t)=H.k.ae l:=λt ht=>(S.use _ hs t).mp ht;have uw:=PX (S.yy _ hs) λt ht=>(i8 t ht).1;have ho:∀o,(H.k.tab (H.k.ae r)).or (H.k.use (H.k.ae l)).head? =some o->(o=3\/o=4)/\cx H.k.ae l r (arg o)=H.k.ae r:=by
  intro o h;rw[vL J (b0 J.ne)];cases e:H.k.tab (H.k.ae r)with
  |some x=>rw[e,PU,eW]at h;subst h;obtain⟨a,b⟩:=S.yz _ _ e;exact⟨a,.inl b⟩
  |none=>rw[e,PV]at h;obtain⟨a,b⟩:=i8 o (ah9 (ah'.mpr h));exact⟨a,.inr ⟨rfl,b⟩⟩
 generalize Qd:(H.k.tab (H.k.ae r)).or (H.k.use (H.k.ae l)).head? =oo at*;constructor
 .refine⟨?_, ?_⟩
  .cases oo with
   |none=>exact dJ _
   |some o=>
    rw[Ce,aP];have:=jU (λt=> !decide (cx H.k.ae l r o=cx H.k.ae l r t)) (H.k.use (H.k.ae l))
    exact aG ak dw [.l af dw,.l ak af] rfl uw this
  .intro q hq;cases oo with
   |none=>cases hq
   |some o=>
    obtain⟨t,ht,rfl⟩:=d4.mp hq;obtain⟨h1,h2⟩:=iK.mp ht;have h2:cx H.k.ae l r o≠cx H.k.ae l r t:=by simpa using h2
    obtain⟨a1,a2⟩:=i8 t h1;obtain⟨b1,b2⟩:=ho o rfl;have a3:cx H.k.ae l r (arg t)=H.k.ae r:=by rw[f9,if_pos a2]
    have dK:cx H.k.ae l r 0=cx H.k.ae l r 1/\((t=3/\o=4)\/(t=4/\o=3))/\cx H.k.ae l r 3≠cx H.k.ae l r 4:=by
     rcases a1 with rfl|rfl<;>rcases b1 with rfl|rfl
     .exact absurd rfl h2
     .exact⟨a3.trans b2.symm,.inl ⟨rfl,rfl⟩,b0 h2⟩
     .exact⟨b2.trans a3.symm,.inr ⟨rfl,rfl⟩,h2⟩
     .exact absurd rfl h2
    exact⟨⟨dK.2.1,dK.1⟩,rfl,dK.2.2⟩
 .intro hC dK;by_cases fS:cx H.k.ae l r 3=cx H.k.ae l r 4
  .exact .inl fS
  .right
   have hold:H.k.ae 0≠H.k.ae 1:=by
    intro e;rcases hC e with h|⟨rfl,rfl⟩|⟨rfl,rfl⟩
    .exact fS (rS h)
    .exact fS (by rw[f9,f9,if_pos rfl,if_neg (b0 J.ne)])
    .exact fS (by rw[f9,f9,if_neg (b0 J.ne),if_pos rfl])
   have key:∀t t':Th,(t=3\/t=4)->(t'=3\/t'=4)->t≠t'->H.k.ae (arg t)=H.k.ae l->H.k.ae (arg t')=H.k.ae r->H.k.ae (arg t)≠H.k.ae (arg t')->cx H.k.ae l r t'≠cx H.k.ae l r t->rR (cx H.k.ae l r) oo (H.k.use (H.k.ae l))≠[]:=by
    intro t t' ht dW ba h1 h2 h3 h4;have Qe:=S.PG t' dW;rw[h2]at Qe;obtain⟨o,fY⟩:=mV.mp Qe;obtain⟨b1,b2⟩:=S.yz _ _ fY;have DY:o=t':=by
     rcases ht with rfl|rfl<;>rcases dW with rfl|rfl<;>rcases b1 with rfl|rfl
     .exact absurd rfl ba
     .exact absurd rfl ba
     .exact absurd (h1.symm.trans b2) J.ne
     .rfl
     .rfl
     .exact absurd (h1.symm.trans b2) J.ne
     .exact absurd rfl ba
     .exact absurd rfl ba
    subst DY;rw[fY,PU]at Qd;rw[<-Qd];have hm:t∈H.k.use (H.k.ae l):=(S.use _ hs t).mpr ⟨ht,h1⟩;intro e;rw[rR,List.map_eq_nil_iff,List.filter_eq_nil_iff]at e;have:=e t hm;rw[uT,decide_eq_false_iff_not,Decidable.not_not]at this;exact h4 this
   have a3:arg 3=0:=rfl;have a4:arg 4=1:=rfl;rw[f9,f9]at dK;by_cases h0:H.k.ae 0=H.k.ae l<;>by_cases h1:H.k.ae 1=H.k.ae l
   .exact absurd (h0.trans h1.symm) hold
   .rw[if_pos h0,if_neg h1]at dK;exact key 3 4 (.inl rfl) (.inr rfl) (by decide) h0 dK.symm hold (λe=>fS e.symm)
   .rw[if_neg h0,if_pos h1]at dK;exact key 4 3 (.inr rfl) (.inl rfl) (by decide) h1 dK (b0 hold) fS
   .rw[if_neg h0,if_neg h1]at dK;exact absurd dK hold
def aij{H:aB}{x:aW}(hx:H.k.aA x=some v):(bw H t).k.aA x=some v:=by
 unfold bw;split
 .exact hx
 .rename_i hn;split
  .exact hx
  .show upd _ _ _ x=_;rw[bO (by rintro rfl;rw[hx]at hn;exact hn rfl)];exact hx
def Qf(l:List aW):∀{H:aB} {x:aW} {v:Told},H.k.aA x=some v->(tells H l).k.aA x=some v:=by
 induction l with
 |nil=>intro H x v h;exact h
 |cons t r ih=>intro H x v h;exact ih (aij h)
structure yC(F:List Fact)(n:Nat)(H:aB)(l r:Th)(H':aB):Prop where
 gh:GH F (n+6) H'
 mono:∀x y,H.k.ae x=H.k.ae y->H'.k.ae x=H'.k.ae y
 eq:H'.k.ae l=H'.k.ae r
 ext:Ext H H'
 aA:∀t v,H.k.aA t=some v->H'.k.aA t=some v
 aN:∃ps,H'.aN=H.aN++ps/\Qc F H'.k ps/\((H.k.ae 0=H.k.ae 1->H.k.ae 3=H.k.ae 4\/((l=3/\r=4)\/(l=4/\r=3)))->H'.k.ae 0=H'.k.ae 1->H'.k.ae 3=H'.k.ae 4\/ps≠[])
def Qg(J:Join F H l r w)(G:GH F n H)(hF:F.length<=20):yC F n H l r (qn H l r w):=by
 have X:=aic J hF;have hj:qn H l r w=tells (XJ H l r w) ((XJ H l r w).k.aS (H.k.ae r)):=rfl;have hG:GH F (n+6) (XJ H l r w):=by
  refine⟨(rwE X.k (ah8 J)),by rw[X.bk];exact G.nN,λt=> ?_, ?_,by rw[X.b];exact G.cN⟩
  .rw[X.bk,G.nw t,X.k];exact yA
  .have h1:fk (XJ H l r w).k=fk H.k:=by rw[X.k];rfl
   have:=X.aU;have:=G.tb;exact mE av (.add af (.add cX o8)) [.q af ak,.l av (.add bo o8),.l bo (.add ak cX)] rfl h1 (by assumption) this
 have hr:(qn H l r w).k.ae=cx H.k.ae l r:=by rw[hj,Hh,X.k];rfl
 obtain⟨p1,p2⟩:=aii J;refine⟨PW _ hG,λx y e=>by rw[hr];exact rS e, ?_,X.ext.trans (PC _ _),λt v h=>by rw[hj];exact Qf _ (rwE X.k h),⟨_,by rw[hj,PJ,X.aN], ?_,by rw[hr];exact p2⟩⟩
 .rw[hr,f9,f9,if_pos rfl,if_neg (b0 J.ne)]
 .refine⟨p1.len,λq hq=> ?_⟩;obtain⟨a,b,c⟩:=p1.ok q hq;exact⟨a.mono λe=>by rw[hr];exact e,b,by rw[hr];exact c⟩
def yC.swap(h:yC F n H r l H'):yC F n H l r H':=⟨h.gh,h.mono,h.eq.symm,h.ext,h.aA,h.aN.imp λY h=>⟨h.1,h.2.1,λhC=>h.2.2 λe=>(hC e).imp id (λx=>x.symm.imp (λy=>⟨y.2,y.1⟩) (λy=>⟨y.2,y.1⟩))⟩⟩
def Qh(J:Join F H l r w)(G:GH F n H)(hF:F.length<=20):yC F n H l r (iJ H l r w):=by
 unfold iJ;split
 .exact(Qg J.swap G hF).swap
 .exact Qg J G hF
end
end
section
structure mB(F:List Fact)(k:Core):Prop where
 cT:∀f∈F,f.cT=true->k.ae f.u=k.ae f.v
 arg:k.ae 0=k.ae 1->k.ae 3=k.ae 4
def ez.mono{F F':List Fact}(S:ez F k)(h1:∀f∈F,f∈F')(h2:Calm F')(h3:∀f∈F',f.cT=false->f∈F)(h4:F.length<=F'.length):ez F' k:=by
 have hE:∀{t p w},kq F k t p w->kq F' k t p w:=by
  intro t p w h;cases w with
  |none=>exact h
  |some m=>obtain⟨a,f,b,c⟩:=h;exact⟨a,f,h1 f b,c⟩
 have hT:∀{t v},oY F k t v->oY F' k t v:=by
  intro t v h;cases v with
  |none=>exact h
  |some s=>
   obtain⟨a,b,c⟩:=h;refine⟨a,b, ?_⟩;rcases c with c|⟨f,d,e⟩
   .exact .inl c
   .exact .inr ⟨f,h1 f d,e⟩
 exact{S with
  snd:=λx y e=>Cb h1 (S.snd x y e)
  di:=λt p w e=>⟨(S.di t p w e).1,hE (S.di t p w e).2⟩
  oZ:=λx s hs=>(S.oZ x s hs).imp λf q=>⟨h1 f q.1,q.2⟩
  tL:=λf hf ht=>S.tL f (h3 f hf ht) ht
  aA:=λt v e=>hT (S.aA t v e)
  calm:=h2
  size:=⟨by have:=S.size.1;(exact bq av (.add iO (.mulL 2 ak)) [.l af ak,.l af ak,.l av (.add iO (.mulL 2 af))] rfl h4 h4 this),λt=>by have:=S.size.2 t;(exact bq av (.add iO (.mulL 2 ak)) [.l af ak,.l af ak,.l av (.add iO (.mulL 2 af))] rfl h4 h4 this)⟩}
section
variable{F:List Fact}
structure CI(F:List Fact)(n:Nat)(H:aB)(i:Nat):Prop where
 gh:GH F n H
 q:∀q∈H.aN.drop i,kq F H.k q.1 q.2.1 q.2.2/\q.2.2=none
 c:H.k.ae 0=H.k.ae 1->H.k.ae 3=H.k.ae 4\/H.aN.drop i≠[]
structure Ho(F:List Fact)(n:Nat)(H H':aB):Prop where
 gh:GH F n H'
 arg:H'.k.ae 0=H'.k.ae 1->H'.k.ae 3=H'.k.ae 4
 mono:∀x y,H.k.ae x=H.k.ae y->H'.k.ae x=H'.k.ae y
 ext:Ext H H'
 aA:∀t v,H.k.aA t=some v->H'.k.aA t=some v
def aik(S:ez F H.k){q:Th×Th×bR}(h:kq F H.k q.1 q.2.1 q.2.2/\q.2.2=none):bX F q.1=bX F q.2.1/\((q.1=3/\q.2.1=4)\/(q.1=4/\q.2.1=3)):=by
 obtain⟨a,b⟩:=h;rw[b]at a;have fS:=(vK F).arg (S.snd _ _ a.2);refine⟨?_,a.1⟩;rcases a.1 with⟨e1,e2⟩|⟨e1,e2⟩
 .rw[e1,e2];exact fS
 .rw[e1,e2];exact fS.symm
def Qi(hF:F.length<=20)(m:Nat):∀{n:Nat} {H:aB} {i f:Nat},CI F n H i->H.aN.length-i=m->m<f->n+6*m<=1500->H.aN.length<=2000->jD f i H/\Ho F (n+6*m) H (lz f i H):=by
 induction m with
 |zero=>
  intro n H i f C hm hf hn hq;cases f with
  |zero=>exact absurd hf (wA _)
  |succ f=>
   have hd:H.aN.drop i=[]:=Kn.mpr (J6 hm);have hi:H.aN[i]? =none:=pP.mpr (J6 hm);rw[Gv,BN,hi];refine⟨trivial,C.gh,λe=> ?_,λY Y e=>e,.refl H,λY Y e=>e⟩;rcases C.c e with h|h
   .exact h
   .exact absurd hd h
 |succ m ih=>
  intro n H i f C hm hf hn hq;cases f with
  |zero=>exact absurd hf (wA _)
  |succ f=>
   have cB:i<H.aN.length:=Nat.lt_of_sub_eq_succ hm;have hd:=uM cB;have hi:H.aN[i]? =some H.aN[i]:=dS cB;generalize H.aN[i]=q at hd hi;have Qj:=C.q q (rwE hd dz);obtain⟨hj,fS⟩:=aik C.gh.S Qj;rw[Gv,BN,hi];show(_/\jD f (i+1) (f6 H q))/\Ho F _ H (lz f (i+1) (f6 H q));by_cases hr:H.k.ae q.1=H.k.ae q.2.1
   .have hs:f6 H q=H:=by unfold f6;rw[if_pos hr]
    rw[hs];have tM:H.k.ae 3=H.k.ae 4:=by
     rcases fS with⟨e1,e2⟩|⟨e1,e2⟩
     .rw[e1,e2]at hr;exact hr
     .rw[e1,e2]at hr;exact hr.symm
    obtain⟨a,b⟩:=ih (n:=n) (H:=H) (i:=i+1) (f:=f) ⟨C.gh,λx hx=>C.q x (rwE hd (dM _ hx)),λY=>.inl tM⟩ (congrArg Eg hm) (by exact aG az ak [.l (.add az aX) aK] rfl hf) (by exact aG (.add af (.mulL 6 ak)) qI [.l (.add af (.mulL 6 aK)) qI] rfl hn) hq;exact⟨⟨λh=>absurd hr h,a⟩,b.gh.weaken (by exact aG (.add af (.mulL 6 ak)) (.add af (.mulL 6 aK)) [] rfl),b.arg,b.mono,b.ext,b.aA⟩
   .have hs:f6 H q=iJ H q.1 q.2.1 q.2.2:=by unfold f6;rw[if_neg hr]
    rw[hs];have J:Join F H q.1 q.2.1 q.2.2:=⟨C.gh.S,hr,hj,Qj.1⟩;have hT:=C.gh.aU;have hN:=C.gh.bk;have R:=Qh J C.gh hF;obtain⟨ps,q1,q2,q3⟩:=R.aN;have tM:(iJ H q.1 q.2.1 q.2.2).k.ae 3=(iJ H q.1 q.2.1 q.2.2).k.ae 4:=by
     have:=R.eq;rcases fS with⟨e1,e2⟩|⟨e1,e2⟩
     .rw[e1,e2]at this⊢;exact this
     .rw[e1,e2]at this⊢;exact this.symm
    have wy:ps=[]:=by
     cases ps with
     |nil=>rfl
     |cons x r=>exact absurd tM (q2.ok x dz).2.2
    rw[wy,gv]at q1;obtain⟨a,b⟩:=ih (n:=n+6) (H:=iJ H q.1 q.2.1 q.2.2) (i:=i+1) (f:=f) ⟨R.gh,λx hx=>by
     rw[q1]at hx;obtain⟨u,v⟩:=C.q x (rwE hd (dM _ hx));exact⟨u.mono λe=>R.mono _ _ e,v⟩,λY=>.inl tM⟩ (by rw[q1];exact congrArg Eg hm) (by exact aG az ak [.l (.add az aX) aK] rfl hf) (by exact aG (.add (.add af o8) (.mulL 6 ak)) qI [.l (.add af (.mulL 6 aK)) qI] rfl hn) (rwE q1 hq)
    exact⟨⟨λY=>⟨J.ok hF (by exact dC nQ d9 [.l (.add af (.mulL 6 aK)) qI,.l nQ (.add (.num 109) af)] rfl hn hT) (by exact a9 af d9 [.l af ig] rfl hN) hq,J.swap.ok hF (by exact dC nQ d9 [.l (.add af (.mulL 6 aK)) qI,.l nQ (.add (.num 109) af)] rfl hn hT) (by exact a9 af d9 [.l af ig] rfl hN) hq⟩,a⟩,b.gh.weaken (by exact aG (.add (.add af o8) (.mulL 6 ak)) (.add af (.mulL 6 aK)) [] rfl),b.arg,λx y e=>b.mono _ _ (R.mono _ _ e),R.ext.trans b.ext,λt v e=>b.aA _ _ (R.aA _ _ e)⟩
def ail{H:aB}{m:Nat}(G:GH F n H)(C:mB F H.k)(hm:m≠0)(hF:F.length<=19)(hn:n<=1400)(hc:Calm (F++[⟨true,a,b,m⟩])):
 jD 5 0 {H with aN:=[(a,b,some m)]}/\GH (F++[⟨true,a,b,m⟩]) (n+18) (i9 5 {H with aN:=[(a,b,some m)]})/\mB (F++[⟨true,a,b,m⟩]) (i9 5 {H with aN:=[(a,b,some m)]}).k/\Ext H (i9 5 {H with aN:=[(a,b,some m)]})/\(i9 5 {H with aN:=[(a,b,some m)]}).aN=[]/\∀t v,H.k.aA t=some v->(i9 5 {H with aN:=[(a,b,some m)]}).k.aA t=some v:=by
 have yD:(F++[(⟨true,a,b,m⟩:Fact)]).length<=20:=by simp;exact a9 af (.num 19) [.l af (.num 19)] rfl hF
 have S':ez (F++[⟨true,a,b,m⟩]) H.k:=G.S.mono (λf hf=>gT _ hf) hc (λf hf ht=>by
  rcases dA.mp hf with h|h
  .exact h
  .rw[bV]at h;subst h;cases ht) (by simp)
 have G':GH (F++[⟨true,a,b,m⟩]) n {H with aN:=[(a,b,some m)]}:=⟨S',G.nN,G.nw,G.tb,G.cN⟩;have hT:=G'.aU;have hN:=G'.bk;have fin:∀{H1:aB},Ext H {H1 with aN:=[]}->Ho (F++[⟨true,a,b,m⟩]) (n+18) H1 (lz 4 1 H1)->H1.k.ae a=H1.k.ae b->(∀x y,H.k.ae x=H.k.ae y->H1.k.ae x=H1.k.ae y)->(∀t v,H.k.aA t=some v->H1.k.aA t=some v)->lz 5 0 {H with aN:=[(a,b,some m)]}=lz 4 1 H1->GH (F++[⟨true,a,b,m⟩]) (n+18) (i9 5 {H with aN:=[(a,b,some m)]})/\mB (F++[⟨true,a,b,m⟩]) (i9 5 {H with aN:=[(a,b,some m)]}).k/\Ext H (i9 5 {H with aN:=[(a,b,some m)]})/\(i9 5 {H with aN:=[(a,b,some m)]}).aN=[]/\∀t v,H.k.aA t=some v->(i9 5 {H with aN:=[(a,b,some m)]}).k.aA t=some v:=by
  intro H1 hE R sG hmo hto he;unfold i9;rw[he];refine⟨⟨R.gh.S,R.gh.nN,R.gh.nw,R.gh.tb,R.gh.cN⟩,⟨λf hf ht=> ?_,R.arg⟩, ?_,rfl,λt v e=>R.aA _ _ (hto t v e)⟩
  .rcases dA.mp hf with h|h
   .exact R.mono _ _ (hmo _ _ (C.cT f h ht))
   .rw[bV]at h;rw[h];exact R.mono _ _ sG
  .obtain⟨⟨e1,x1,x2⟩,x3,x4⟩:=hE;obtain⟨⟨e2,y1,y2⟩,y3,y4⟩:=R.ext;exact⟨⟨e1++e2,by rw[<-pV,<-x1];exact y1,x2.app y2⟩,y3.trans x3,y4.trans x4⟩
 by_cases hr:H.k.ae a=H.k.ae b
 .have hs:f6 {H with aN:=[(a,b,some m)]} (a,b,some m)={H with aN:=[(a,b,some m)]}:=by unfold f6;rw[if_pos hr]
  obtain⟨x,y⟩:=Qi yD 0 (n:=n) (H:={H with aN:=[(a,b,some m)]}) (i:=1) (f:=4) ⟨G',(by intro q hq;cases hq),λe=>.inl (C.arg e)⟩ (by simp) (by decide) (by exact a9 (.add af (.mulL 6 iN)) qI [.l af (.num 1400)] rfl hn) (by simp);refine⟨⟨λh=>absurd hr h,by rw[hs];exact x⟩,fin (H1:={H with aN:=[(a,b,some m)]}) ?_ ⟨y.gh.weaken (by exact a9 (.add af (.mulL 6 iN)) (.add af (.num 18)) [] rfl),y.arg,y.mono,y.ext,y.aA⟩ hr (λY Y e=>e) (λY Y e=>e) ?_⟩
  .exact⟨⟨[],by simp,.nil⟩,rfl,rfl⟩
  .show lz 4 1 (f6 _ _)=_;rw[hs]
 .have hs:f6 {H with aN:=[(a,b,some m)]} (a,b,some m)=iJ {H with aN:=[(a,b,some m)]} a b (some m):=by unfold f6;rw[if_neg hr]
  have J:Join (F++[⟨true,a,b,m⟩]) {H with aN:=[(a,b,some m)]} a b (some m):=⟨S',hr,(vK _).cT ⟨true,a,b,m⟩ (by simp) rfl,⟨hm,⟨true,a,b,m⟩,by simp,rfl,rfl,.inl ⟨rfl,rfl⟩⟩⟩;have R:=Qh J G' yD;obtain⟨ps,q1,q2,q3⟩:=R.aN;have q3:=q3 λe=>.inl (C.arg e);have hlen:(iJ {H with aN:=[(a,b,some m)]} a b (some m)).aN.length=1+ps.length:=by rw[q1];exact dU (a9 az (.add aX af) [] rfl) (a9 (.add aX af) az [] rfl)
  have Qk:(iJ {H with aN:=[(a,b,some m)]} a b (some m)).aN.drop 1=ps:=by rw[q1];rfl
  have hp:=q2.len;obtain⟨x,y⟩:=Qi yD ps.length (n:=n+6) (i:=1) (f:=4) ⟨R.gh,λq hq=>by
   rw[Qk]at hq;obtain⟨u,v,_⟩:=q2.ok q hq;exact⟨u,v⟩,λe=>by rw[Qk];exact q3 e⟩ (by rw[hlen];exact Nat.add_sub_cancel_left ..) (by exact a9 az (.num 4) [.l af dw] rfl hp) (by exact aG (.add (.add af o8) (.mulL 6 ak)) qI [.l af (.num 1400),.l ak dw,.l ak dw,.l ak dw,.l ak dw,.l ak dw,.l ak dw] rfl hn hp hp hp hp hp hp) (by exact aG af d9 [.e af (.add aX ak),.l ak dw] rfl hlen hp)
  refine⟨⟨λY=>⟨J.ok yD (by exact bq ie d9 [.l af (.num 1400),.l ie (.add (.num 109) af)] rfl hn hT) (by exact a9 af d9 [.l af ig] rfl hN) (by simp),J.swap.ok yD (by exact bq ie d9 [.l af (.num 1400),.l ie (.add (.num 109) af)] rfl hn hT) (by exact a9 af d9 [.l af ig] rfl hN) (by simp)⟩,by rw[hs];exact x⟩,fin (H1:=iJ {H with aN:=[(a,b,some m)]} a b (some m)) ?_ ⟨y.gh.weaken (by exact aG (.add (.add ak o8) (.mulL 6 af)) (.add ak (.num 18)) [.l af dw,.l af dw,.l af dw,.l af dw,.l af dw,.l af dw] rfl hp hp hp hp hp hp),y.arg,y.mono,y.ext,y.aA⟩ R.eq (λY Y e=>R.mono _ _ e) (λY Y e=>R.aA _ _ e) ?_⟩
  .obtain⟨⟨es,e1,e2⟩,e3,e4⟩:=R.ext;exact⟨⟨es,e1,e2⟩,e3,e4⟩
  .show lz 4 1 (f6 _ _)=_;rw[hs]
def Ql{e:Sep}:wt ⟨k.ae,k.mem,k.use,k.val,upd k.aD x (k.aD x++[e]),k.aS,k.up,k.tab,k.aA⟩=upd (wt k) x (wt k x+1):=by
 funext t;by_cases h:t=x
 .rw[h,bK];show _+(upd k.aD x (k.aD x++[e]) x).length+_=_;rw[bK,bM];exact abI ((k.mem x).length+(k.use x).length+(k.aD x).length) 1 (k.aS x).length
 .rw[bO h];show _+(upd k.aD x (k.aD x++[e]) t).length+_=_;rw[bO h];rfl
def aim{a:Th}{m:Nat}(G:GH F n H)(C:mB F H.k)(hF:F.length<=19)(hc:Calm (F++[⟨false,a,b,m⟩])):
 H.k.ae a≠H.k.ae b/\GH (F++[⟨false,a,b,m⟩]) (n+18) (tB H a b m)/\mB (F++[⟨false,a,b,m⟩]) (tB H a b m).k/\Ext H (tB H a b m)/\(tB H a b m).aN=H.aN/\∀t v,H.k.aA t=some v->(tB H a b m).k.aA t=some v:=by
 have S:=G.S;have gz:∀f∈F,f∈F++[(⟨false,a,b,m⟩:Fact)]:=λf hf=>gT _ hf;have ba:H.k.ae a≠H.k.ae b:=λe=>hc.sep ⟨false,a,b,m⟩ (by simp) rfl (Cb gz (S.snd _ _ e));have hK:ez (F++[⟨false,a,b,m⟩]) ⟨H.k.ae,H.k.mem,H.k.use,H.k.val,upd (upd H.k.aD (H.k.ae a) (H.k.aD (H.k.ae a)++[(a,b,m)])) (H.k.ae b) (H.k.aD (H.k.ae b)++[(a,b,m)]),H.k.aS,H.k.up,H.k.tab,H.k.aA⟩:=by
  have yE:∀x s,s∈upd (upd H.k.aD (H.k.ae a) (H.k.aD (H.k.ae a)++[(a,b,m)])) (H.k.ae b) (H.k.aD (H.k.ae b)++[(a,b,m)]) x<->s∈H.k.aD x\/((x=H.k.ae a\/x=H.k.ae b)/\s=(a,b,m)):=by
   intro x s;by_cases h:x=H.k.ae b
   .subst h;rw[bK];simp
   .rw[bO h];by_cases h2:x=H.k.ae a
    .rw[h2];rw[bK];simp
    .rw[bO h2];simp[h,h2]
  refine{S with snd:=λx y e=>Cb gz (S.snd x y e),di:=λt p w e=>⟨(S.di t p w e).1, ?_⟩,oZ:=λx s hs=> ?_,tL:=λf hf ht=> ?_,aA:=λt v e=> ?_,calm:=hc,size:= ?_}
  .have:=(S.di t p w e).2;cases w with
   |none=>exact this
   |some m=>obtain⟨a,f,b,c⟩:=this;exact⟨a,f,gz f b,c⟩
  .rcases(yE x s).mp hs with h|⟨_,h⟩
   .obtain⟨f,u,v⟩:=S.oZ x s h;exact⟨f,gz f u,v⟩
   .exact⟨⟨false,a,b,m⟩,by simp,rfl,h⟩
  .rcases dA.mp hf with h|h
   .obtain⟨u,v⟩:=S.tL f h ht;exact⟨(yE _ _).mpr (.inl u),(yE _ _).mpr (.inl v)⟩
   .rw[bV]at h;subst h;exact⟨(yE _ _).mpr (.inr ⟨.inl rfl,rfl⟩),(yE _ _).mpr (.inr ⟨.inr rfl,rfl⟩)⟩
  .have:=S.aA t v e;cases v with
   |none=>exact this
   |some s=>
    obtain⟨u,v,w⟩:=this;refine⟨u,v, ?_⟩;rcases w with w|⟨f,d,e⟩
    .exact .inl w
    .exact .inr ⟨f,gz f d,e⟩
  .have hw:wt ⟨H.k.ae,H.k.mem,H.k.use,H.k.val,upd (upd H.k.aD (H.k.ae a) (H.k.aD (H.k.ae a)++[(a,b,m)])) (H.k.ae b) (H.k.aD (H.k.ae b)++[(a,b,m)]),H.k.aS,H.k.up,H.k.tab,H.k.aA⟩=upd (upd (wt H.k) (H.k.ae a) (wt H.k (H.k.ae a)+1)) (H.k.ae b) (wt H.k (H.k.ae b)+1):=by
    have hb:upd H.k.aD (H.k.ae a) (H.k.aD (H.k.ae a)++[(a,b,m)]) (H.k.ae b)=H.k.aD (H.k.ae b):=bO (b0 ba);rw[<-hb];refine Fq (Ql (k:=⟨H.k.ae,H.k.mem,H.k.use,H.k.val,upd H.k.aD (H.k.ae a) (H.k.aD (H.k.ae a)++[(a,b,m)]),H.k.aS,H.k.up,H.k.tab,H.k.aA⟩) (x:=H.k.ae b) (e:=(a,b,m))) ?_;rw[Ql (k:=H.k) (x:=H.k.ae a) (e:=(a,b,m)),bO (b0 ba)]
   rw[hw];obtain⟨z1,z2⟩:=S.size;have hl:(F++[(⟨false,a,b,m⟩:Fact)]).length=F.length+1:=by simp
   rw[hl];have ain:∀t,upd (upd (wt H.k) (H.k.ae a) (wt H.k (H.k.ae a)+1)) (H.k.ae b) (wt H.k (H.k.ae b)+1) t<=wt H.k t+1:=by
    intro t;by_cases h:t=H.k.ae b
    .subst h;rw[bK];exact a9 az az [] rfl
    .rw[bO h];by_cases h2:t=H.k.ae a
     .subst h2;rw[bK];exact a9 az az [] rfl
     .rw[bO h2];exact a9 af az [] rfl
   refine⟨?_,λt=>by have:=ain t;have:=z2 t;(exact bq af (.add iO (.mulL 2 bD)) [.l af aK,.l ak (.add iO (.mulL 2 av))] rfl (by assumption) this)⟩;have nj:(λt=>if H.k.ae t=t then upd (upd (wt H.k) (H.k.ae a) (wt H.k (H.k.ae a)+1)) (H.k.ae b) (wt H.k (H.k.ae b)+1) t else 0)=upd (upd (λt=>if H.k.ae t=t then wt H.k t else 0) (H.k.ae a) (wt H.k (H.k.ae a)+1)) (H.k.ae b) (wt H.k (H.k.ae b)+1):=by
    funext t;by_cases h:t=H.k.ae b
    .subst h;rw[bK,bK,if_pos (S.idem b)]
    .rw[bO h,bO h];by_cases h2:t=H.k.ae a
     .subst h2;rw[bK,bK,if_pos (S.idem a)]
     .rw[bO h2,bO h2]
   unfold tK at z1⊢;rw[nj];have u1:=Cf (e:=λt=>if H.k.ae t=t then wt H.k t else 0) (a:=H.k.ae a) (v:=wt H.k (H.k.ae a)+1) things xM (oJ _);have u2:=Cf (e:=upd (λt=>if H.k.ae t=t then wt H.k t else 0) (H.k.ae a) (wt H.k (H.k.ae a)+1)) (a:=H.k.ae b) (v:=wt H.k (H.k.ae b)+1) things xM (oJ _);rw[bO (b0 ba)]at u2;simp only[S.idem,if_true]at u1 u2
   exact Rp cX (.add iO (.mulL 2 aK)) [.l af (.add iO (.mulL 2 ak)),.e nQ (.add af lF),.e (.add cX lE) (.add av (.add lE aX))] rfl z1 u1 u2
 have hq:tB H a b m=tells {H with k:=⟨H.k.ae,H.k.mem,H.k.use,H.k.val,upd (upd H.k.aD (H.k.ae a) (H.k.aD (H.k.ae a)++[(a,b,m)])) (H.k.ae b) (H.k.aD (H.k.ae b)++[(a,b,m)]),H.k.aS,H.k.up,H.k.tab,H.k.aA⟩,aU:=H.aU++[.apart (H.k.ae a) (H.k.ae b)]} (H.k.aS (H.k.ae a)):=rfl;have hG:GH (F++[⟨false,a,b,m⟩]) (n+18) {H with k:=⟨H.k.ae,H.k.mem,H.k.use,H.k.val,upd (upd H.k.aD (H.k.ae a) (H.k.aD (H.k.ae a)++[(a,b,m)])) (H.k.ae b) (H.k.aD (H.k.ae b)++[(a,b,m)]),H.k.aS,H.k.up,H.k.tab,H.k.aA⟩,aU:=H.aU++[.apart (H.k.ae a) (H.k.ae b)]}:=⟨hK,G.nN,G.nw,by have:=G.tb;show(H.aU++_).length<=fk H.k+_;rw[bM,fK];(exact bq az (.add ak (.add av (.num 18))) [.l af ie] rfl this),G.cN⟩;refine⟨ba,by rw[hq];exact PW _ hG,⟨λf hf ht=> ?_, ?_⟩, ?_,by rw[hq,PJ],λt v e=>by rw[hq];exact Qf _ e⟩
 .rw[hq,Hh];rcases dA.mp hf with h|h
  .exact C.cT f h ht
  .rw[bV]at h;subst h;cases ht
 .rw[hq,Hh];exact C.arg
 .rw[hq];refine Ext.trans ?_ (PC _ _);have hB:∀t,(H.k.aD t).length<=70:=λt=>by have:=S.size.2 t;have:=(nM H.k t).2.2.1;exact bq av (.num 70) [.l af (.num 19),.l af (.num 19),.l ak (.add iO (.mulL 2 af)),.l av ak] rfl hF hF (by assumption) this
  refine⟨⟨[.apart (H.k.ae a) (H.k.ae b)],rfl,.one ⟨ba, ?_, ?_, ?_, ?_⟩ (Core.ext' rfl rfl rfl rfl ?_ rfl rfl rfl rfl)⟩,rfl,rfl⟩
  .simp only[bO ba,bK];simp
  .simp only[bK];simp
  .simp only[bO ba,bK,bM,fK];have:=hB (H.k.ae a);exact a9 az dI [.l af (.num 70)] rfl this
  .simp only[bK,bM,fK];have:=hB (H.k.ae b);exact a9 az dI [.l af (.num 70)] rfl this
  .show upd (upd (upd (upd _ _ _) _ _) _ _) _ _=H.k.aD;simp only[bK,bO ba,Fw];funext x;by_cases h:x=H.k.ae b
   .subst h;rw[bK]
   .rw[bO h];by_cases h2:x=H.k.ae a
    .subst h2;rw[bK]
    .rw[bO h2,bO h,bO h2]
end
end
variable{x:Ex}{y:aW}{l:Nat}{p0:Th}
section
abbrev qB:List Int->Prop
 |[]=>True
 |x::r=>(∀y∈r,x<=y)/\qB r
variable{l:List Int}
def Hp{x y:Int}:y∈insI x l<->y=x\/y∈l:=by
 induction l with
 |nil=>rw[show insI x []=[x]from rfl];simp
 |cons z r ih=>
  rw[vS];split
  .simp
  .rw[bU,ih,bU];constructor
   .rintro(h|h|h)
    .exact .inr (.inl h)
    .exact .inl h
    .exact .inr (.inr h)
   .rintro(h|h|h)
    .exact .inr (.inl h)
    .exact .inl h
    .exact .inr (.inr h)
def tN{y:Int}:y∈sortI l<->y∈l:=by
 induction l with
 |nil=>exact yA
 |cons x r ih=>rw[show sortI (x::r)=insI x (sortI r)from rfl,Hp,ih,bU]
def aio{x:Int}:qB l->qB (insI x l):=by
 induction l with
 |nil=>intro _;exact⟨by simp,trivial⟩
 |cons z r ih=>
  intro h;rw[vS];split
  .rename_i hx;refine⟨λy hy=> ?_,h⟩;rcases bU.mp hy with rfl|hy
   .exact hx
   .exact k5 hx (h.1 y hy)
  .rename_i hx;refine⟨λy hy=> ?_,ih h.2⟩;rcases Hp.mp hy with rfl|hy
   .exact wo (wm.mp hx)
   .exact h.1 y hy
def Hq(l:List Int):qB (sortI l):=by
 induction l with
 |nil=>exact trivial
 |cons x r ih=>exact aio (ih)
def aip{x:Int}:x∉l->l.Nodup->(insI x l).Nodup:=by
 induction l with
 |nil=>intro _ _;exact d0.mpr ⟨lR,.nil⟩
 |cons z r ih=>
  intro hx hn;rw[vS];split
  .exact d0.mpr ⟨hx,hn⟩
  .rw[d0]at hn;rw[bU,not_or]at hx;refine d0.mpr ⟨λh=> ?_,ih hx.2 hn.2⟩;rcases Hp.mp h with h|h
   .exact hx.1 h.symm
   .exact hn.1 h
def yF:l.Nodup->(sortI l).Nodup:=by
 induction l with
 |nil=>intro h;exact h
 |cons x r ih=>intro h;rw[d0]at h;exact aip (λhm=>h.1 (tN.mp hm)) (ih h.2)
def aiq{a b:List Int}(ha:a.Nodup)(hb:b.Nodup):qB (joinR a b)/\(joinR a b).Nodup/\∀x,x∈joinR a b<->x∈a\/x∈b:=by
 unfold joinR;refine⟨Hq _,yF (j5.mpr ⟨ha,hb.sublist (yG ..),λx hx y hy e=> ?_⟩),λx=> ?_⟩
 .subst e;obtain⟨_,h⟩:=iK.mp hy;simp[hx]at h
 .rw[tN,dA,iK];constructor
  .rintro(h|⟨h,_⟩)
   .exact .inl h
   .exact .inr h
  .rintro(h|h)
   .exact .inl h
   .by_cases hx:x∈a
    .exact .inl hx
    .exact .inr ⟨h,by simp[hx]⟩
def air{m:Nat}(hs:qB l)(hn:l.Nodup):qB (qj l m)/\(qj l m).Nodup/\(∀x,x∈qj l m<->x∈l\/(m≠0/\x=(m:Int)))/\(qj l m).length<=l.length+1:=by
 unfold qj;by_cases h:m=0\/(m:Int)∈l
 .rw[if_pos h];refine⟨hs,hn,λx=>⟨.inl, ?_⟩,a9 af az [] rfl⟩;rintro(hx|⟨h0,rfl⟩)
  .exact hx
  .rcases h with h|h
   .exact absurd h h0
   .exact h
 .rw[if_neg h];have h0:m≠0:=λe=>h (.inl e);refine⟨Hq _,yF (j5.mpr ⟨hn,by simp,λx hx y hy e=> ?_⟩),λx=> ?_,by rw[nF];simp⟩
  .rw[bV]at hy;subst hy;subst e;exact h (.inr hx)
  .rw[tN];simp[h0]
section
variable{F:List Fact}
def ais(S:ez F k){c c' p':Th}(h:k.up c=some (p,none))(h':k.up c'=some (p',none)):c=c'/\p=p':=by
 obtain⟨d,hd⟩:=S.ac;have r1:=hd _ _ h;have r2:=hd _ _ h';rcases((S.di _ _ _ h).2.1)with⟨rfl,rfl⟩|⟨rfl,rfl⟩<;>rcases((S.di _ _ _ h').2.1)with⟨rfl,rfl⟩|⟨rfl,rfl⟩
 .exact⟨rfl,rfl⟩
 .exact absurd r1 (Nat.lt_asymm r2)
 .exact absurd r1 (Nat.lt_asymm r2)
 .exact⟨rfl,rfl⟩
structure tO(up:Up)(x:Ex):Prop where
 f1:∀c∈x.seen,∀p m,up c=some (p,some m)->m∈x.found
 f2:∀m∈x.found,∃c p,up c=some (p,some m)
 nd:x.found.Nodup
 sd:x.seen.Nodup
 fl:x.found.length<=x.seen.length
def Qm{l:List Nat}{m x:Nat}:x∈lj l m<->x∈l\/x=m:=by
 unfold lj;by_cases h:m∈l
 .rw[if_pos h];exact⟨.inl,λq=>q.elim id λe=>e▸h⟩
 .rw[if_neg h,dA,bV]
def Qn{l:List α}{m:α}(h:l.Nodup)(hm:m∉l):(l++[m]).Nodup:=j5.mpr ⟨h,d0.mpr ⟨lR,uf⟩,λa ha b hb e=>hm (bV.mp hb▸e▸ha)⟩
def ait{l:List Nat}{m:Nat}(h:l.Nodup):(lj l m).Nodup:=by
 unfold lj;by_cases hm:m∈l
 .rw[if_pos hm];exact h
 .rw[if_neg hm];exact Qn h hm
structure rT(up:Up)(P:List Th)(x y:Ex):Prop where
 i:tO up y
 s:∀c∈x.seen,c∈y.seen
 p:∀c∈P,c∈y.seen
 q:∀c∈y.seen,c∈x.seen\/c∈P
 w0:(∀c∈P,c∉x.seen->∀p,up c≠some (p,none))->y.work=x.work
 w1:∀c0 p0,(∀c p,up c=some (p,none)->c=c0/\p=p0)->up c0=some (p0,none)->c0∈P->c0∉x.seen->y.work=x.work++[(arg c0,arg p0)]
def rT.app{P P':List Th}{y z:Ex}(a:rT up P x y)(b:rT up P' y z):rT up (P++P') x z where
 i:=b.i
 s:=λc h=>b.s c (a.s c h)
 p:=λc h=>(dA.mp h).elim (λh=>b.s c (a.p c h)) (b.p c)
 q:=λc h=>(b.q c h).elim (λh=>(a.q c h).imp id (gT _)) λh=>.inr (tI _ h)
 w0:=λh=>(b.w0 λc hc hn=>h c (tI _ hc) λq=>hn (a.s c q)).trans (a.w0 λc hc=>h c (gT _ hc))
 w1:=λc0 p0 h1 h2 h3 h4=>by
  by_cases h:c0∈P
  .exact(b.w0 λc hc hn p e=>hn ((h1 c p e).1▸a.p c0 h)).trans (a.w1 c0 p0 h1 h2 h h4)
  .rw[b.w1 c0 p0 h1 h2 ((dA.mp h3).resolve_left h) λq=>(a.q c0 q).elim h4 h,a.w0 λc hc Y p e=>h ((h1 c p e).1▸hc)]
def rT.one{c:Th}(hP:(up c).isSome=true)(hI:tO up x):rT up [c] x (fc up x c):=by
 by_cases hs:c∈x.seen
 .rw[show fc up x c=x from if_pos hs];exact⟨hI,λY h=>h,λy hy=>bV.mp hy▸hs,λY h=>.inl h,λY=>rfl,λc0 p0 h1 h2 h3 h4=>absurd (bV.mp h3▸hs) h4⟩
 .obtain⟨⟨p,w⟩,he⟩:=mV.mp hP;have gW:=Qn hI.sd hs;have hq:∀y∈x.seen++[c],y∈x.seen\/y∈[c]:=λy hy=>dA.mp hy;have hl:=(bM (as:=x.seen) (bs:=[c])).symm;cases w with
  |none=>rw[show fc up x c=⟨x.work++[(arg c,arg p)],x.seen++[c],x.found⟩ by unfold fc;rw[if_neg hs,he]];exact⟨⟨λy hy p' m yH=>(hq y hy).elim (λh=>hI.f1 y h p' m yH) (λh=>noSN ((congrArg (λo:Option (Th×bR)=>o.bind (·.2)) (he.symm.trans ((congrArg up (bV.mp h)).symm.trans yH))).symm)),hI.f2,hI.nd,gW,hl▸AP hI.fl⟩,λy hy=>gT _ hy,λy hy=>tI _ hy,hq,λh=>absurd he (h c (bV.mpr rfl) hs p),λc0 p0 h1 h2 h3 h4=>by rw[(h1 c p he).1,(h1 c p he).2]⟩
  |some m=>rw[show fc up x c=⟨x.work,x.seen++[c],lj x.found m⟩ by unfold fc;rw[if_neg hs,he]];exact⟨⟨λy hy p' m' yH=>Qm.mpr ((hq y hy).imp (λh=>hI.f1 y h p' m' yH) λh=>(bF (congrArg (λo:Option (Th×bR)=>o.bind (·.2)) (he.symm.trans ((congrArg up (bV.mp h)).symm.trans yH)))).symm),λm' mP=>(Qm.mp mP).elim (hI.f2 m') λe=>⟨c,p,e▸he⟩,ait hI.nd,gW,hl▸bx (NW ..) (mQ hI.fl)⟩,λy hy=>gT _ hy,λy hy=>tI _ hy,hq,λY=>rfl,λc0 p0 h1 h2 h3 h4=>noNS (congrArg (λo:Option (Th×bR)=>o.bind (·.2)) (h2.symm.trans ((congrArg up (bV.mp h3)).trans he)))⟩
def Qo(P:List Th):∀{x:Ex},(∀c∈P,(up c).isSome=true)->tO up x->rT up P x (P.foldl (fc up) x):=by
 induction P with
 |nil=>exact λY hI=>⟨hI,λY h=>h,λY h=>(lR h).elim,λY h=>.inl h,λY=>rfl,λY Y Y Y h=>(lR h).elim⟩
 |cons c r ih=>exact λhP hI=>have a:=rT.one (hP c dz) hI;a.app (ih (λy hy=>hP y (dM _ hy)) a.i)
def Qp(h:dj up)(g:Th->α)(p1:List Th):∀{a x:Th} {q1:List Th},bA up a=p1++x::q1->(∀c∈p1,∀p w,up c=some (p,w)->g c=g p)->g a=g x:=by
 induction p1 with
 |nil=>
  intro a x q1 e _;have:a=x:=by unfold bA at e;simp only[aiu,nJ]at e;exact e.1
  rw[this]
 |cons c r ih=>
  intro a x q1 e hg;have Hr:a=c:=by unfold bA at e;simp only[u4,nJ]at e;exact e.1
  subst Hr;cases hu:up a with
  |none=>rw[rN h hu]at e;simp at e
  |some ed=>rw[nod_some h hu,u4,nJ]at e;rw[hg a dz ed.1 ed.2 hu];exact ih e.2 λc hc=>hg c (dM _ hc)
def Hs(h:dj up)(hp:pk up a=pk up b)(g:Th->α)(hg:∀c∈fq up a b,∀p w,up c=some (p,w)->g c=g p):g a=g b:=by
 obtain⟨x,p1,q1,p2,q2,h1,h2,h3,h4,h5⟩:=Bz h hp;rw[h3]at hg;rw[Qp h g p1 h1 λc hc=>hg c (gT _ hc),Qp h g p2 h2 λc hc=>hg c (tI _ hc)]
def Qq(h:dj up){c0:Th}(hu:∀c p,up c=some (p,none)->c=c0/\p=p0)(h0:up c0=some (p0,none))(hc:∀t p w,up t=some (p,w)->(c t=c p<->w≠none)):
 ∀(p1:List Th) {a x:Th} {q1:List Th},bA up a=p1++x::q1->(c a=c x<->c0∉p1):=by
 intro l0;induction l0 with
 |nil=>
  intro a x q1 e;have:a=x:=by unfold bA at e;simp only[aiu,nJ]at e;exact e.1
  rw[this];simp
 |cons y r ih=>
  intro a x q1 e;have Hr:a=y:=by unfold bA at e;simp only[u4,nJ]at e;exact e.1
  rw[<-Hr];have hn:=tf h a;cases he:up a with
  |none=>rw[rN h he]at e;simp at e
  |some ed=>
   obtain⟨p,w⟩:=ed;rw[nod_some h he,u4,nJ]at e;have ih:=ih e.2;have Ck:=hc a p w he;by_cases ha:a=c0
   .subst ha;rw[h0,eW,B']at he;obtain⟨rfl,rfl⟩:=he;have hnr:a∉r:=by
     rw[nod_some h h0,e.2,d0]at hn;exact λhm=>hn.1 (gT _ hm)
    simp only[bU,true_or,not_true,iff_false];rw[<-(ih.mpr hnr)];exact(λq=>by have:=Ck.mp q;exact this rfl)
   .rw[Ck.mpr (by rintro rfl;exact ha (hu a p he).1),ih,bU,not_or];exact⟨λq=>⟨λe=>ha e.symm,q⟩,λq=>q.2⟩
def aiv(S:ez F k){c0:Th}(hu:∀c p,k.up c=some (p,none)->c=c0/\p=p0)(h0:k.up c0=some (p0,none))(sO:pk k.up a=pk k.up b)(sG:(a=0/\b=1)\/(a=1/\b=0)):c0∉fq k.up a b:=by
 obtain⟨c,hc,yB⟩:=S.col ⟨c0,p0,h0⟩;obtain⟨x,p1,q1,p2,q2,e1,e2,e3,e4,e5⟩:=Bz S.ac sO;have k1:=Qq S.ac hu h0 yB p1 e1;have k2:=Qq S.ac hu h0 yB p2 e2;have Ck:c a=c b:=sG.elim (λh=>by rw[h.1,h.2];exact hc) λh=>by rw[h.1,h.2];exact hc.symm
 rw[e3,dA];rw[Ck]at k1;exact λh=>h.elim (λh=>k1.mp (k2.mpr λq=>e5 c0 q (rwE e1 (gT _ h))) h) λh=>k2.mp (k1.mpr λq=>e5 c0 h (rwE e1 (gT _ q))) h
def aiw{k:Core}{c0:Th}(fS:(c0=3/\p0=4)\/(c0=4/\p0=3))(dK:k.ae 0=k.ae 1):k.ae (arg c0)=k.ae (arg p0)/\((arg c0=0/\arg p0=1)\/(arg c0=1/\arg p0=0)):=fS.elim (λh=>by rw[h.1,h.2];exact⟨dK,.inl ⟨rfl,rfl⟩⟩) λh=>by rw[h.1,h.2];exact⟨dK.symm,.inr ⟨rfl,rfl⟩⟩
def aix{F':List Fact}(hM:Model F' g){c0:Th}(fS:(c0=3/\p0=4)\/(c0=4/\p0=3))(h:g 0=g 1):g c0=g p0:=fS.elim (λe=>by rw[e.1,e.2];exact hM.arg h) λe=>by rw[e.1,e.2];exact(hM.arg h).symm
def Ht(S:ez F k)(hr:k.ae a=k.ae b):∃R,gi k.up 3 ⟨[(a,b)],[],[]⟩=some R/\R.Nodup/\R.length<=7/\(∀m∈R,m≠0/\∃f∈F,f.cT=true/\f.m=m)/\∀F' g,Model F' g->(∀f∈F,f.m∈R->f∈F')->g a=g b:=by
 have hI0:tO k.up ⟨[],[],[]⟩:=⟨(by intro c hc;cases hc),(by intro m hm;cases hm),by simp,by simp,by simp⟩;have hp:=S.top _ _ hr;obtain⟨a1,a2,a3,_,a4,a5⟩:=Qo (fq k.up a b) (F7 S.ac hp) hI0;have fin:∀x:Ex,tO k.up x->x.found.Nodup/\x.found.length<=7/\∀m∈x.found,m≠0/\∃f∈F,f.cT=true/\f.m=m:=by
  intro x hx;refine⟨hx.nd,by have:=hx.fl;have:=oK hx.sd;(exact aG af dm [.l af ak,.l ak dm] rfl (by assumption) this),λm hm=> ?_⟩;obtain⟨c,p,hc⟩:=hx.f2 m hm;obtain⟨h0,f,h1,h2,h3,_⟩:=(S.di _ _ _ hc).2;exact⟨h0,f,h1,h2,h3⟩
 have di:∀x:Ex,tO k.up x->∀F' g,Model F' g->(∀f∈F,f.m∈x.found->f∈F')->∀c∈x.seen,∀p m,k.up c=some (p,some m)->g c=g p:=by
  intro x hx F' g hM hF c hc p m jc;obtain⟨h0,f,h1,h2,h3,h4⟩:=(S.di _ _ _ jc).2;have hf:=hM.cT f (hF f h1 (rwE h3 (hx.f1 c hc p m jc))) h2;rcases h4 with⟨e1,e2⟩|⟨e1,e2⟩
  .rw[<-e1,<-e2];exact hf
  .rw[<-e1,<-e2];exact hf.symm
 have l1:gi k.up 3 ⟨[(a,b)],[],[]⟩=gi k.up 2 ((fq k.up a b).foldl (fc k.up) ⟨[],[],[]⟩):=rfl;rw[l1];by_cases hn:∃c0 p0,k.up c0=some (p0,none)/\c0∈fq k.up a b
 .obtain⟨c0,p0,h0,hm⟩:=hn;have hu:∀c p,k.up c=some (p,none)->c=c0/\p=p0:=λc p h=>ais S h h0;have hw:=a5 c0 p0 hu h0 hm (by simp);obtain⟨aj8,fS,dK⟩:=S.di _ _ _ h0;generalize(fq k.up a b).foldl (fc k.up) ⟨[],[],[]⟩=x1 at*;have Hu:=aiw fS dK;have sO:=S.top _ _ Hu.1;have l2:gi k.up 2 x1=gi k.up 1 ((fq k.up (arg c0) (arg p0)).foldl (fc k.up) ⟨[],x1.seen,x1.found⟩):=by
   show(match x1.work.getLast? with|none=>some x1.found|some (a,b)=>gi k.up 1 ((fq k.up a b).foldl (fc k.up) ⟨x1.work.dropLast,x1.seen,x1.found⟩))=_;rw[hw];rfl
  have AD:tO k.up ⟨[],x1.seen,x1.found⟩:=⟨a1.f1,a1.f2,a1.nd,a1.sd,a1.fl⟩;obtain⟨b1,b2,b3,_,b4,b5⟩:=Qo (fq k.up (arg c0) (arg p0)) (F7 S.ac sO) AD;have Ay:=aiv S hu h0 sO Hu.2;rw[l2];generalize(fq k.up (arg c0) (arg p0)).foldl (fc k.up) ⟨[],x1.seen,x1.found⟩=x2 at*;obtain⟨f1,f2,f3⟩:=fin x2 b1;refine⟨x2.found,by
   show(match x2.work.getLast? with|none=>some x2.found|some (a,b)=>gi k.up 0 ((fq k.up a b).foldl (fc k.up) ⟨x2.work.dropLast,x2.seen,x2.found⟩))=_;rw[(b4 λc hc Y p jc=>Ay ((hu c p jc).1▸hc))];rfl,f1,f2,f3,λF' g hM hF=> ?_⟩
  have Qr:=di x2 b1 F' g hM hF;have aiy:g 0=g 1:=by
   have:=Hs S.ac sO g λc hc p w jc=>by
    cases w with
    |some m=>exact Qr c (b3 c hc) p m jc
    |none=>exact absurd ((hu c p jc).1▸hc) Ay
   rcases Hu.2 with⟨u,v⟩|⟨u,v⟩
   .rw[u,v]at this;exact this
   .rw[u,v]at this;exact this.symm
  refine Hs S.ac hp g λc hc p w jc=> ?_;cases w with
  |some m=>exact Qr c (b2 c (a3 c hc)) p m jc
  |none=>rw[(hu c p jc).1,(hu c p jc).2];exact aix hM fS aiy
 .have hw:=a4 λc hc Y p jc=>hn ⟨c,p,jc,hc⟩;generalize(fq k.up a b).foldl (fc k.up) ⟨[],[],[]⟩=x1 at*;obtain⟨f1,f2,f3⟩:=fin x1 a1;refine⟨x1.found,by
   show(match x1.work.getLast? with|none=>some x1.found|some (a,b)=>gi k.up 1 ((fq k.up a b).foldl (fc k.up) ⟨x1.work.dropLast,x1.seen,x1.found⟩))=_;rw[hw];rfl,f1,f2,f3,λF' g hM hF=> ?_⟩
  refine Hs S.ac hp g λc hc p w jc=> ?_;cases w with
  |some m=>exact di x1 a1 F' g hM hF c (a3 c hc) p m jc
  |none=>exact absurd ⟨c,p,jc,hc⟩ hn
end
end
variable{s:Sep}
section
structure yI(F:List Fact):Prop where
 nz:∀f∈F,2<=f.m/\f.m<=10
 nd:(F.map (·.m)).Nodup
def Qs{f:α->β}(hf:∀a b,f a=f b->a=b){l:List α}:l.Nodup->(l.map f).Nodup:=by
 induction l with
 |nil=>intro _;simp
 |cons x r ih=>
  intro h;rw[d0]at h;rw[eP,d0];refine⟨λhm=> ?_,ih h.2⟩;obtain⟨y,hy,e⟩:=d4.mp hm;rw[hf _ _ e]at hy;exact h.1 hy
variable{l:List Int}
section
variable{F:List Fact}
def Qt(hF:yI F)(hn:l.Nodup)(hl:∀x∈l,∃f∈F,(f.m:Int)=x):(jF F l).length=l.length:=by
 have h1:((jF F l).map λf=>(f.m:Int)).Nodup:=by
  have:((jF F l).map (·.m)).Nodup:=hF.nd.sublist ((yG ..).map _);have h2:=Qs (f:=λn:Nat=>(n:Int)) (λa b e=>rb e) this
  rwa [pT]at h2
 have a:((jF F l).map λf=>(f.m:Int)).length<=l.length:=h1.length_le_of_subset λx hx=>by
  obtain⟨f,hf,rfl⟩:=d4.mp hx;simpa using(iK.mp hf).2
 have b:l.length<=((jF F l).map λf=>(f.m:Int)).length:=hn.length_le_of_subset λx hx=>by
  obtain⟨f,hf,e⟩:=hl x hx;exact d4.mpr ⟨f,iK.mpr ⟨hf,by rw[e];simpa using hx⟩,e⟩
 rw[aP]at a b
 exact dU (aG af ak [.l af ak] rfl a) (aG af ak [.l af ak] rfl b)
def aiz:qB l->l.Nodup->l.Pairwise (·<·):=by
 induction l with
 |nil=>intro _ _;exact .nil
 |cons x r ih=>intro h n;have n':=d0.mp n;exact .cons (λy hy=>W'.mpr ⟨h.1 y hy,λe=>n'.1 (e▸hy)⟩) (ih h.2 n'.2)
def Qu(hF:yI F)(hs:qB l)(hn:l.Nodup)(hl:∀x∈l,∃f∈F,(f.m:Int)=x):pj l=true:=by
 unfold pj;rw[eO,fE];refine⟨λx hx=> ?_,decide_eq_true (aiz hs hn)⟩;obtain⟨f,hf,rfl⟩:=hl x hx;have:=hF.nz f hf;rw[decide_eq_true (show(2:Int)<=f.m from sa.mpr this.1),decide_eq_true (show(f.m:Int)<=10 from sa.mpr this.2)];rfl
def aiA(l:List Int):∀f∈jF F l,f∈F:=λf hf=>(iK.mp hf).1
def Qv{G:List Fact}{v:Th}(h1:bX G u=bX G s.1)(h2:bX G v=bX G s.2.1)(hc:Hg F s)(hG:∀f∈F,f.cT=false->f.m=s.2.2->f∈G):Apart G (bX G) u v:=by
 rcases hc with⟨_,⟨e1,e2⟩|⟨e1,e2⟩⟩|⟨f,hf,ht,hm,⟨e1,e2⟩|⟨e1,e2⟩⟩
 .rw[e1]at h1;rw[e2]at h2;exact .inr (.inl ⟨h1,h2⟩)
 .rw[e1]at h1;rw[e2]at h2;exact .inr (.inr ⟨h1,h2⟩)
 .exact .inl ⟨f,hG f hf ht hm,ht,.inl ⟨by rw[e1];exact h1,by rw[e2];exact h2⟩⟩
 .exact .inl ⟨f,hG f hf ht hm,ht,.inr ⟨by rw[e2];exact h1,by rw[e1];exact h2⟩⟩
def Qw(hc:Calm F)(h:Hg F s):bX F s.1≠bX F s.2.1:=by
 rcases h with⟨_,⟨e1,e2⟩|⟨e1,e2⟩⟩|⟨f,hf,ht,hm,⟨e1,e2⟩|⟨e1,e2⟩⟩
 .rw[e1,e2];exact hc.num
 .rw[e1,e2];exact b0 hc.num
 .rw[<-e1,<-e2];exact hc.sep f hf ht
 .rw[<-e1,<-e2];exact b0 (hc.sep f hf ht)
def Hv(S:ez F k){v:Told}(h:oY F k t v):fA F (aV t).1 (aV t).2=sgn v:=by
 cases v with
 |none=>exact PA (S.snd _ _ h)
 |some s=>
  obtain⟨h1,h2,h3⟩:=h;have e1:=S.snd _ _ h1;have e2:=S.snd _ _ h2;exact PB (by rw[e1,e2];exact Qw S.calm h3) (Qv e1 e2 h3 λf hf Y Y=>hf)
def aiB(S:ez F k):vq k:=
 ⟨S.ac,S.top,λt p h=>by
  obtain⟨_,fS,dK⟩:=S.di _ _ _ h;rcases fS with⟨rfl,rfl⟩|⟨rfl,rfl⟩
  .exact⟨.inl rfl,.inr rfl,dK⟩
  .exact⟨.inr rfl,.inl rfl,dK⟩,λt p m h=>(S.di _ _ _ h).2.1⟩
def Hw{R:List Nat}(h:R.Nodup):(R.map j7).Nodup:=Qs (f:=j7) (λa b e=>rb e) h
def aiC(S:ez F k)(hF:yI F){v:Told}(ht:k.aA t=some v):G0 k F t (fA F (aV t).1 (aV t).2):=by
 have ju:=S.aA t v ht;have kj:=Hv S ju;refine⟨aiB S,λe=> ?_,λs e=> ?_, ?_⟩
 .rw[ht,eW]at e;subst e;exact ju
 .rw[ht,eW]at e;subst e;exact⟨ju.1,ju.2.1⟩
 cases v with
 |none=>
  obtain⟨R,r1,r2,r3,r4,r5⟩:=Ht S (show k.ae (aV t).1=k.ae (aV t).2 from ju);have hl:∀x∈sortI (R.map j7),∃f∈F,(f.m:Int)=x:=λx hx=>by
   obtain⟨m,hm,rfl⟩:=d4.mp (tN.mp hx);obtain⟨_,f,hf,_,e⟩:=r4 m hm;exact⟨f,hf,by rw[e];rfl⟩
  have hn:=yF (Hw r2);refine⟨3,sortI (R.map j7),by decide,by unfold vy;rw[ht];exact congrArg (wH _) r1,by rw[nF,aP];(exact a9 az nR [.l af dm] rfl r3),Qu hF (Hq _) hn hl,Qt hF hn hl, ?_⟩
  .rw[kj];refine PA (r5 _ _ (vK _) λf hf hm=>iK.mpr ⟨hf, ?_⟩);rw[decide_eq_true_eq,tN,d4];exact⟨f.m,hm,rfl⟩
 |some s=>
  obtain⟨h1,h2,h3⟩:=ju;obtain⟨R1,p1,p2,p3,p4,p5⟩:=Ht S h1;obtain⟨R2,q1,q2,q3,q4,q5⟩:=Ht S h2;obtain⟨j1,j2,j3⟩:=aiq (yF (Hw p2)) (yF (Hw q2));obtain⟨w1,w2,w3,w4⟩:=air (m:=s.2.2) j1 j2;have qC:=N3 (sortI (R1.map j7)) (sortI (R2.map j7));simp only[nF,aP]at qC;have pY:∀x,x∈nG R1 R2 s.2.2<->(∃m∈R1,j7 m=x)\/(∃m∈R2,j7 m=x)\/(s.2.2≠0/\x=(s.2.2:Int)):=by intro x;unfold nG;rw[w3,j3,tN,tN,d4,d4,or_assoc]
  have hl:∀x∈nG R1 R2 s.2.2,∃f∈F,(f.m:Int)=x:=λx hx=>by
   rcases(pY x).mp hx with⟨m,hm,rfl⟩|⟨m,hm,rfl⟩|⟨h0,rfl⟩
   .obtain⟨_,f,hf,_,e⟩:=p4 m hm;exact⟨f,hf,by rw[e];rfl⟩
   .obtain⟨_,f,hf,_,e⟩:=q4 m hm;exact⟨f,hf,by rw[e];rfl⟩
   .rcases h3 with⟨h3,_⟩|⟨f,hf,_,e,_⟩
    .exact absurd h3 h0
    .exact⟨f,hf,by rw[e]⟩
  refine⟨3,nG R1 R2 s.2.2,by decide,by unfold vy;rw[ht];exact fg.mpr ⟨_,p1,gV.mpr ⟨_,q1,rfl⟩⟩,by(exact dC bD nR [.l af dm,.l ak dm,.l av lF,.l bo cI] rfl p3 q3 w4 qC),Qu hF w1 w2 hl,Qt hF w2 hl, ?_⟩
  .rw[kj];have g1:bX (jF F (nG R1 R2 s.2.2)) (aV t).1=bX (jF F (nG R1 R2 s.2.2)) s.1:=p5 _ _ (vK _) λf hf hm=>iK.mpr ⟨hf,by
    rw[decide_eq_true_eq,pY];exact .inl ⟨f.m,hm,rfl⟩⟩
   have g2:bX (jF F (nG R1 R2 s.2.2)) (aV t).2=bX (jF F (nG R1 R2 s.2.2)) s.2.1:=q5 _ _ (vK _) λf hf hm=>iK.mpr ⟨hf,by
    rw[decide_eq_true_eq,pY];exact .inr (.inl ⟨f.m,hm,rfl⟩)⟩
   refine PB (λe=> ?_) (Qv g1 g2 h3 λf hf hft hm=>iK.mpr ⟨hf,by
    rw[decide_eq_true_eq,pY];exact .inr (.inr ⟨by rw[<-hm];exact jR (eM (by decide) (hF.nz f hf).1),by rw[hm]⟩)⟩)
   have:=Cb (aiA (nG R1 R2 s.2.2)) e;rw[S.snd _ _ h1,S.snd _ _ h2]at this;exact Qw S.calm h3 this
def Qx(S:ez F k)(C:mB F k)(a b:Th):k.ae a=k.ae b<->bX F a=bX F b:=⟨S.snd a b,Py ⟨C.cT,C.arg⟩ a b⟩
def Qy:∀{l:List Sep},parted ae a b l=none->∀s∈l,¬(ae s.1=a/\ae s.2.1=b)/\¬(ae s.1=b/\ae s.2.1=a):=by
 intro l h;induction l with
 |nil=>exact λY h=>(lR h).elim
 |cons x r ih=>
  rw[F8]at h;by_cases h1:ae x.1=a/\ae x.2.1=b
  .rw[if_pos h1]at h;cases h
  .rw[if_neg h1]at h;by_cases h2:ae x.1=b/\ae x.2.1=a
   .rw[if_pos h2]at h;cases h
   .rw[if_neg h2]at h;exact F6.mpr ⟨⟨h1,h2⟩,ih h⟩
def aiD(S:ez F k)(C:mB F k)(ba:k.ae a≠k.ae b)(h:rO k a b=none):¬Apart F (bX F) a b:=by
 have key:parted k.ae (k.ae a) (k.ae b) (k.aD (k.ae a))=none/\¬(∃v w,k.val (k.ae a)=some v/\k.val (k.ae b)=some w):=by
  unfold rO at h;rw[if_neg ba]at h;cases h1:k.val (k.ae a)with
  |none=>rw[h1]at h;exact⟨h,by intro bz;obtain⟨v,w,e,_⟩:=bz;cases e⟩
  |some v=>
   cases h2:k.val (k.ae b)with
   |none=>rw[h1,h2]at h;exact⟨h,by intro bz;obtain⟨v,w,_,e⟩:=bz;cases e⟩
   |some w=>rw[h1,h2]at h;cases h
 obtain⟨hp,hv⟩:=key;have R:=Qx S C;have Cm:∀x,(bX F x=bX F 5->k.val (k.ae x)=some 5)/\(bX F x=bX F 6->k.val (k.ae x)=some 6):=λx=>
  ⟨λe=>(S.val _ (S.idem x) 5).mpr ⟨.inl rfl,((R _ _).mpr e).symm⟩,λe=>(S.val _ (S.idem x) 6).mpr ⟨.inr rfl,((R _ _).mpr e).symm⟩⟩
 rintro(⟨f,hf,ht,⟨e1,e2⟩|⟨e1,e2⟩⟩|⟨e1,e2⟩|⟨e1,e2⟩)
 .have r1:=(R _ _).mpr e1;have r2:=(R _ _).mpr e2;exact((Qy hp (f.u,f.v,f.m) (by rw[r1];exact(S.tL f hf ht).1)).1) ⟨r1.symm,r2.symm⟩
 .have r1:=(R _ _).mpr e1;have r2:=(R _ _).mpr e2;exact((Qy hp (f.u,f.v,f.m) (by rw[r1];exact(S.tL f hf ht).2)).2) ⟨r2.symm,r1.symm⟩
 .exact hv ⟨5,6,(Cm _).1 e1,(Cm _).2 e2⟩
 .exact hv ⟨6,5,(Cm _).2 e1,(Cm _).1 e2⟩
def aiE(S:ez F k)(C:mB F k)(t:aW):match lu k t with|none=>fA F (aV t).1 (aV t).2=0|some v=>fA F (aV t).1 (aV t).2=sgn v:=by
 cases h:lu k t with
 |some v=>exact Hv S (PH S h)
 |none=>
  unfold lu at h;by_cases e:k.ae (aV t).1=k.ae (aV t).2
  .rw[if_pos e]at h;cases h
  .rw[if_neg e,Option.map_eq_none_iff]at h;exact ahM (λq=>e ((Qx S C _ _).mpr q)) (aiD S C e h)
def aiF(v:Told):sgn v≠0:=by cases v<;>simp[sgn]
abbrev Ag(k:Core)(sT:ST):Prop:=∀t x,lk sT t=some x->∃v,k.aA t=some v/\x.1=sgn v
def ask(hq:(q.map (·.2)).flatten=F)(G:GH F n H)(C:mB F H.k)(hF:yI F)(hA:Ag H.k sT)(t:aW):
 ((bw H t).k.aA t).isSome=(lk (fR q sT t) t).isSome/\(∀v,(bw H t).k.aA t=some v->∃x,lk (fR q sT t) t=some x/\x.1=sgn v/\(bw H t).bk.count t=1)/\(lk sT t=none->∀v,(bw H t).k.aA t=some v->G0 (bw H t).k (q.map (·.2)).flatten t (fA (q.map (·.2)).flatten (aV t).1 (aV t).2))/\Ag (bw H t).k (fR q sT t):=by
 have G':=Hl G t;have S':=G'.S;have Qz:∀v,(bw H t).k.aA t=some v->(bw H t).bk.count t=1:=λv hv=>by
  have hm:t∈(bw H t).bk:=(G'.nw t).mpr (by rw[hv];rfl);have h1:=List.nodup_iff_count.mp G'.nN t;have h2:=List.count_pos_iff.mpr hm
  exact dU (a9 af aX [.l af aX] rfl h1) (a9 aX af [.l (.add iN aX) af] rfl h2)
 have QA:=aiE G.S C t;have uS:∀x v,H.k.aA x=some v->(bw H t).k.aA x=some v:=by
  intro x v hx;unfold bw;split
  .exact hx
  .rename_i hn;split
   .exact hx
   .show upd _ _ _ x=_;rw[bO (by rintro rfl;rw[hx]at hn;exact hn rfl)];exact hx
 unfold fR;rw[hq];cases hl:lk sT t with
 |some x=>
  obtain⟨v,hv,hs⟩:=hA t x hl;have e:¬(some x=none/\fA F (aV t).1 (aV t).2≠0):=by intro bz;obtain⟨h,_⟩:=bz;cases h
  rw[if_neg e,hl];have pH:=uS t v hv;refine⟨by rw[pH];rfl,λw hw=> ?_,(by intro h;cases h),λy z hy=> ?_⟩
  .rw[pH,eW]at hw;subst hw;exact⟨x,rfl,hs,Qz v pH⟩
  .obtain⟨w,hw,hz⟩:=hA y z hy;exact⟨w,uS y w hw,hz⟩
 |none=>
  have aiG:(bw H t).k.aA t=(H.k.aA t).or (lu H.k t):=by
   unfold bw;cases ht:H.k.aA t with
   |some v=>rw[if_pos (by rfl),ht];rfl
   |none=>
    rw[if_neg (by simp)];cases hv:lu H.k t with
    |none=>rw[ht];rfl
    |some v=>show upd _ _ _ t=_;rw[bK];rfl
  have kj:fA F (aV t).1 (aV t).2=match(bw H t).k.aA t with|none=>0|some v=>sgn v:=by
   cases hv:(bw H t).k.aA t with
   |some v=>exact Hv S' (S'.aA t v hv)
   |none=>
    rw[aiG]at hv;cases ht:H.k.aA t with
    |some v=>rw[ht]at hv;cases hv
    |none=>rw[ht,PV]at hv;rw[hv]at QA;exact QA
  cases hv:(bw H t).k.aA t with
  |none=>
   rw[hv]at kj;have e:¬((none:Option (Int×Nat))=none/\fA F (aV t).1 (aV t).2≠0):=by intro bz;obtain⟨_,h⟩:=bz;exact h kj
   rw[if_neg e,hl];refine⟨rfl,(by intro v h;cases h),(by intro _ v h;cases h),λy z hy=> ?_⟩;obtain⟨w,hw,hz⟩:=hA y z hy;exact⟨w,uS y w hw,hz⟩
  |some v=>
   rw[hv]at kj;have e:((none:Option (Int×Nat))=none/\fA F (aV t).1 (aV t).2≠0):=⟨rfl,by rw[kj];exact aiF v⟩;rw[if_pos e,rK,if_pos rfl];refine⟨rfl,λw hw=> ?_,λY w hw=>aiC S' hF hv,λy z hy=> ?_⟩
   .rw[eW]at hw;subst hw;exact⟨_,rfl,kj,Qz _ hv⟩
   .rw[rK]at hy;by_cases QB:y=t
    .subst QB;rw[if_pos rfl,eW]at hy;subst hy;exact⟨v,hv,kj⟩
    .rw[if_neg QB]at hy;obtain⟨w,hw,hz⟩:=hA y z hy;exact⟨w,uS y w hw,hz⟩
end
end
variable{km:ST}
section
def Bk.inv{K:Core}{es:List Ent}(h:Bk K0 (es++[e]) K):yl e K/\Bk K0 es (yk e K):=by
 generalize hl:es++[e]=l at h;cases h with
 |nil=>simp at hl
 | @snoc iy e' K1 _ h1 h2 h3=>
  obtain⟨rfl,he⟩:=ahA hl rfl;simp only[nJ,and_true]at he;rw[he];exact⟨h2,by rw[h3];exact h1⟩
def Bk.nil_eq{K:Core}(h:Bk K0 [] K):K=K0:=by
 generalize hl:([]:List Ent)=l at h;cases h with
 |nil=>rfl
 |snoc _ _ _=>simp at hl
def Bk.split{K1:Core}{x:List Ent}:∀{es:List Ent} {K:Core},Bk K0 (x++es) K->Bk K1 es K->Bk K0 x K1:=by
 intro es;induction hl:es.length generalizing es with
 |zero=>intro K h1 h2;have:=se.mp hl;subst this;rw[gv]at h1;rw[<-h2.nil_eq];exact h1
 |succ n ih=>
  intro K h1 h2;have ba:es≠[]:=by rintro rfl;cases hl
  have hs:=(uq ba).symm;generalize es.dropLast=r at hs;generalize es.getLast ba=e at hs;subst hs;rw[<-pV]at h1;exact ih (by simpa using hl) h1.inv.2 h2.inv.2
structure Snap(d:Nat)(H:aB)(F:List Fact)(sT:ST)(i mk:Nat):Prop where
 ex:∃K tr es,H.aU=tr++es/\Bk K es H.k/\mk=H.b.cN.length+tr.length/\ez F K/\mB F K/\tr.length<=fk K+20*d/\(∀t,(K.aA t).isSome=true<->∃x,lk sT t=some x/\x.2<=i)/\∀t x,lk sT t=some x->x.2<=i->∃v,K.aA t=some v/\x.1=sgn v
def Snap.ext{d':Nat}{F:List Fact}{mk:Nat}(h:Snap d H F sT i mk)(hE:∃es,H'.aU=H.aU++es/\Bk H.k es H'.k)(hb:H'.b=H.b)(hd:d<=d')(hs:∀t x,x.2<=i->(lk km t=some x<->lk sT t=some x)):Snap d' H' F km i mk:=by
 obtain⟨K,tr,es,h1,h2,h3,h4,h5,h6,h7,h8⟩:=h.ex;obtain⟨e2,x1,x2⟩:=hE;refine⟨K,tr,es++e2,by rw[x1,h1,pV],h2.app x2,by rw[hb];exact h3,h4,h5,by have:=IP 20 hd;(exact dC af (.add ak (.mulL 20 bo)) [.l af (.add ak (.mulL 20 av)),.l (.mulL 20 av) (.mulL 20 bo)] rfl h6 this),λt=> ?_,λt x hx hi=>h8 t x ((hs t x hi).mp hx) hi⟩;rw[h7 t];constructor
 .intro bz;obtain⟨x,a,b⟩:=bz;exact⟨x,(hs t x b).mpr a,b⟩
 .intro bz;obtain⟨x,a,b⟩:=bz;exact⟨x,(hs t x b).mp a,b⟩
structure LI(d:Nat)(H:aB)(ls:List (List Fact))(sT:ST):Prop where
 gh:GH ls.flatten (20*d) H
 cp:mB ls.flatten H.k
 fo:yI ls.flatten
 fb:∀f∈ls.flatten,f.m<d+2
 len:ls.flatten.length<=d
 ag:Ag H.k sT
 qe:H.aN=[]
 nl:ls.length=H.bt.length+1
 lv:ls.length<=d+1
 lt:∀t x,lk sT t=some x->x.2<ls.length
 nt:(sT.map (·.1)).Nodup
 mm:∀(i j a b:Nat),i<=j->H.bt[i]? =some a->H.bt[j]? =some b->a<=b
 sn:∀(i mk:Nat),H.bt[i]? =some mk->Snap d H (ls.take (i+1)).flatten sT i mk
abbrev Full(H:aB)(sT:ST):Prop:=∀t,(H.k.aA t).isSome=(lk sT t).isSome
variable{x:Int×Nat}
private def QC(h:lk (fR q sT t) y=some x):lk sT y=some x\/(y=t/\x.2=q.length-1/\lk sT t=none):=by
 unfold fR at h;split at h
 .rename_i hc;rw[rK]at h;by_cases e:y=t
  .rw[if_pos e,eW]at h;subst h;exact .inr ⟨e,rfl,hc.1⟩
  .rw[if_neg e]at h;exact .inl h
 .exact .inl h
def aiH(h:lk sT y=some x):lk (fR q sT t) y=some x:=by
 unfold fR;split
 .rename_i hc;rw[rK,if_neg]
  .exact h
  .rintro rfl;rw[hc.1]at h;cases h
 .exact h
def aiI(h:(sT.map (·.1)).Nodup):((fR q sT t).map (·.1)).Nodup:=by
 unfold fR;split
 .exact xJ _ _ _ h
 .exact h
def LI.ask(L:LI d H (q.map (·.2)) sT)(t:aW):LI d (bw H t) (q.map (·.2)) (fR q sT t):=by
 obtain⟨a1,a2,a3,a4⟩:=Internal.ask rfl L.gh L.cp L.fo L.ag t;have fQ:q.length=H.bt.length+1:=by have:=L.nl;rwa [aP]at this
 refine{gh:=Hl L.gh t,cp:=⟨λf hf ht=>by rw[yt];exact L.cp.cT f hf ht,by rw[yt];exact L.cp.arg⟩,fo:=L.fo,fb:=L.fb,len:=L.len,ag:=a4,qe:=by rw[GZ];exact L.qe,nl:=by rw[B7];exact L.nl,lv:=L.lv,lt:=λy x hx=> ?_,nt:=aiI L.nt,mm:=by rw[B7];exact L.mm,sn:=λi mk hi=> ?_}
 .rcases QC hx with h|⟨_,h,_⟩
  .exact L.lt y x h
  .rw[aP,h];exact Nat.sub_lt (fQ▸As _) Nat.one_pos
 .rw[B7]at hi;have tP:=(b9.mp hi).1;refine(L.sn i mk hi).ext (Hd H t).es (Hd H t).b (bG _) λy x hx=>⟨λh=> ?_,aiH⟩;rcases QC h with h|⟨_,h,_⟩
  .exact h
  .lia
def aiJ(h:y≠t):(bw H t).k.aA y=H.k.aA y:=by
 unfold bw;split
 .rfl
 .split
  .rfl
  .exact bO h
def aiK(h:y≠t):lk (fR q sT t) y=lk sT y:=by
 unfold fR;split
 .rw[rK,if_neg h]
 .rfl
def LI.weaken{ls:List (List Fact)}(L:LI d H ls sT):LI (d+1) H ls sT:={L with gh:=L.gh.weaken (a9 (.mulL 20 af) (.mulL 20 az) [] rfl),fb:=λf hf=>by have:=L.fb f hf;(exact aG az (.add aK dw) [.l az (.add ak dw)] rfl this),len:=by have:=L.len;(exact aG af aK [.l af ak] rfl this),lv:=by have:=L.lv;(exact aG af (.add aK aX) [.l af aK] rfl this),sn:=λi mk h=>(L.sn i mk h).ext ⟨[],by simp,.nil⟩ rfl (a9 af az [] rfl) λY Y Y=>yA}
def LI.push{ls:List (List Fact)}(L:LI d H ls sT)(hf:Full H sT):LI (d+1) (vA H) (ls++[[]]) sT:=by
 have L':=L.weaken;have hn:=L.nl;have cW:(ls++[[]]).flatten=ls.flatten:=by simp
 have om:(vA H).bt=H.bt++[H.b.cN.length+H.aU.length]:=rfl;have aiL:∀(i mk:Nat),H.bt[i]? =some mk->mk<=H.b.cN.length+H.aU.length:=λi mk h=>by
  obtain⟨K,tr,es,h1,_,h3,_⟩:=(L.sn i mk h).ex;rw[h3,h1,bM];exact bq cI (.add af ie) [] rfl
 refine{gh:=⟨by rw[cW];exact L'.gh.S,L'.gh.nN,L'.gh.nw,L'.gh.tb,L'.gh.cN⟩,cp:=by rw[cW];exact L'.cp,fo:=by rw[cW];exact L'.fo,fb:=by rw[cW];exact L'.fb,len:=by rw[cW];exact L'.len,ag:=L'.ag,qe:=L'.qe,nl:=by rw[om];simp[hn],lv:=by have:=L.lv;simp;(exact aG af aK [.l af aK] rfl this),lt:=λt x hx=>by have:=L.lt t x hx;simp;(exact aG az aK [.l az ak] rfl this),nt:=L.nt,mm:=λi j a b px ha hb=> ?_,sn:=λi mk h=> ?_}
 .rw[om]at ha hb;have hj:=(b9.mp hb).1;rw[bM,fK]at hj;by_cases qC:j<H.bt.length
  .rw[oe (by exact bq az av [.l af ak,.l aK av] rfl px qC)]at ha;rw[oe qC]at hb;exact L.mm i j a b px ha hb
  .have:j=H.bt.length:=by exact dU (aG af ak [.l az aK] rfl hj) (aG af ak [.l af ak] rfl (fT.mp qC))
   subst this;rw[za (bG _)]at hb;simp only[zb,v8,eW]at hb;subst hb;by_cases tP:i<H.bt.length
   .rw[oe tP]at ha;exact aiL i a ha
   .have:i=H.bt.length:=by exact dU (aG af ak [.l af ak] rfl px) (aG af ak [.l af ak] rfl (fT.mp tP))
    subst this;rw[za (bG _)]at ha;simp only[zb,v8,eW]at ha
    exact bq av cI [.q cI av] rfl ha
 .rw[om]at h;have hi:=(b9.mp h).1;rw[bM,fK]at hi;by_cases tP:i<H.bt.length
  .rw[oe tP]at h;rw[QD (by exact bq bD af [.q af aK,.l bD ak] rfl hn tP)];exact(L'.sn i mk h).ext ⟨[],by simp[vA],.nil⟩ rfl (bG _) λY Y Y=>yA
  .have:i=H.bt.length:=by exact dU (aG af ak [.l az aK] rfl hi) (aG af ak [.l af ak] rfl (fT.mp tP))
   subst this;rw[za (bG _)]at h;simp only[zb,v8,eW]at h;subst h;rw[Gz hn];have aiM:∀t x,lk sT t=some x->x.2<=H.bt.length:=λt x hx=>by have:=L.lt t x hx;exact bq av ak [.e af aK,.l bD af] rfl hn this
   refine⟨H.k,H.aU,[],by simp[vA],.nil,rfl,L.gh.S,L.cp,L'.gh.tb,λt=> ?_,λt x hx Y=>L.ag t x hx⟩;rw[hf t];constructor
   .intro h;obtain⟨x,hx⟩:=mV.mp h;exact⟨x,hx,aiM t x hx⟩
   .intro bz;obtain⟨x,hx,_⟩:=bz;rw[hx];rfl
abbrev below(n:Nat)(sT:ST):ST:=sT.filter λp=>decide (p.2.2<n)
def yJ(h:(sT.map (·.1)).Nodup):lk (below n sT) t=some x<->lk sT t=some x/\x.2<n:=by
 constructor
 .intro e;obtain⟨a,b⟩:=iK.mp (Mi e);exact⟨xH h a,by simpa using b⟩
 .intro bz;obtain⟨a,b⟩:=bz;exact xH (h.sublist ((yG ..).map _)) (iK.mpr ⟨Mi a,by simpa using b⟩)
def aiN(h:(sT.map (·.1)).Nodup)(hl:∀t x,lk sT t=some x->x.2<n):below n sT=sT:=by unfold below;rw[Lo];intro p hp;simpa using hl p.1 p.2 (xH h hp)
def LI.pop{ls:List (List Fact)}(L:LI d H ls sT){fP oS:List Nat}{mk:Nat}(hm:H.bt=fP++mk::oS):
 ∃K tr es,H.aU=tr++es/\Bk K es H.k/\mk=H.b.cN.length+tr.length/\LI (d+1) ⟨H.b,K,tr,H.bk.filter λt=>(K.aA t).isSome,[],fP⟩ (ls.take (fP.length+1)) (below (fP.length+1) sT):=by
 have hj:H.bt[fP.length]? =some mk:=by rw[hm];simp
 have hlen:H.bt.length=fP.length+1+oS.length:=by rw[hm];simp;exact dU (aG (.add af aK) (.add az ak) [] rfl) (aG (.add az ak) (.add af aK) [] rfl)
 have hn:=L.nl;obtain⟨K,tr,es,h1,h2,h3,h4,h5,h6,h7,h8⟩:=(L.sn _ _ hj).ex;have gz:∀f∈(ls.take (fP.length+1)).flatten,f∈ls.flatten:=λf hf=>by
  obtain⟨l,a,b⟩:=aiO.mp hf;exact aiO.mpr ⟨l,aiP a,b⟩
 have cW:ls.flatten=(ls.take (fP.length+1)).flatten++(ls.drop (fP.length+1)).flatten:=by rw[<-BV,BF]
 have Hx:∀{i x:Nat},fP[i]? =some x->H.bt[i]? =some x/\i<fP.length:=λ{i x} h=>by have hi:=(b9.mp h).1;exact⟨by rw[hm,oe hi];exact h,hi⟩
 refine⟨K,tr,es,h1,h2,h3, ?_⟩;refine{gh:=⟨h4,L.gh.nN.sublist (yG ..),λt=> ?_,by show tr.length<=fk K+_;(exact bq af (.add ak (.mulL 20 bD)) [.l af (.add ak (.mulL 20 av))] rfl h6),L.gh.cN⟩,cp:=h5,fo:=⟨λf hf=>L.fo.nz f (gz f hf), ?_⟩,fb:=λf hf=>by have:=L.fb f (gz f hf);(exact aG az (.add aK dw) [.l az (.add ak dw)] rfl this),len:= ?_,ag:=λt x hx=> ?_,qe:=rfl,nl:=by rw[m8,hn,hlen];exact vi (bx (pA _ _) (mM _)),lv:=by rw[m8];exact bx (Gg _ _) (AP L.lv),lt:=λt x hx=> ?_,nt:=L.nt.sublist ((yG ..).map _),mm:=λi j a b px ha hb=>L.mm i j a b px (Hx ha).1 (Hx hb).1,sn:=λi x hx=> ?_}
 .rw[iK];constructor
  .exact λh=>h.2
  .intro h;refine⟨?_,h⟩;obtain⟨x,a,b⟩:=(h7 t).mp h;obtain⟨v,c,_⟩:=L.ag t x a;exact(L.gh.nw t).mpr (by rw[c];rfl)
 .have:=L.fo.nd;rw[cW,cD]at this;exact(j5.mp this).1
 .have:=L.len;rw[cW,bM]at this
  exact bq af bD [.l cI av] rfl this
 .obtain⟨a,b⟩:=(yJ L.nt).mp hx;exact h8 t x a (by exact aG af ak [.l az aK] rfl b)
 .obtain⟨a,b⟩:=(yJ L.nt).mp hx;rw[m8];exact Nat.lt_min.mpr ⟨b,L.lt t x a⟩
 .obtain⟨hx,hi⟩:=Hx hx;have hle:=L.mm i fP.length x mk (by exact aG af ak [.l az ak] rfl hi) hx hj;obtain⟨Ki,tQ,esi,g1,g2,g3,g4,g5,g6,g7,g8⟩:=(L.sn i x hx).ex;have cB:tQ.length<=tr.length:=by exact mE cX av [.e af ie,.l bo af,.q bo (.add ak cX)] rfl h3 hle g3
  have iH:∃y,tr=tQ++y/\esi=y++es:=by
   have e:=g1.symm.trans h1;refine⟨tr.drop tQ.length, ?_, ?_⟩
   .have h:=congrArg (List.take tQ.length) e;rw[Gz rfl,QD cB]at h
    conv=>lhs;rw[<-BF tQ.length tr]
    rw[<-h]
   .have h:=congrArg (List.drop tQ.length) e;rw[List.drop_left' rfl,List.drop_append_of_le_length cB]at h;exact h
  obtain⟨y,y1,y2⟩:=iH;subst y2;have hB:=Bk.split g2 h2;refine⟨Ki,tQ,y,y1,hB,g3, ?_, ?_,by exact bq af (.add ak (.mulL 20 bD)) [.l af (.add ak (.mulL 20 av))] rfl g6,λt=> ?_,λt z hz hzi=>g8 t z ((yJ L.nt).mp hz).1 hzi⟩
  .rw[QE,vi (by exact aG az aK [.l az ak] rfl hi)];exact g4
  .rw[QE,vi (by exact aG az aK [.l az ak] rfl hi)];exact g5
  .rw[g7 t];constructor
   .intro bz;obtain⟨z,a,b⟩:=bz;exact⟨z,(yJ L.nt).mpr ⟨a,by exact bq bD aK [.l az ak,.l av af] rfl hi b⟩,b⟩
   .intro bz;obtain⟨z,a,b⟩:=bz;exact⟨z,((yJ L.nt).mp a).1,b⟩
abbrev qD(ls:List (List Fact))(f:Fact):List (List Fact):=ls.dropLast++[ls.getLastD []++[f]]
def aiQ{ls:List (List Fact)}(h:ls≠[])(f:Fact):(qD ls f).flatten=ls.flatten++[f]:=by
 unfold qD
 conv=>rhs;rw[<-(uq h)]
 rw[List.getLastD_eq_getLast?,List.getLast?_eq_some_getLast h];simp
def aiR{ls:List (List Fact)}(h:ls≠[])(f:Fact):(qD ls f).length=ls.length:=by unfold qD;rw[bM,zH,fK];exact Nat.sub_add_cancel (List.length_pos_iff.mpr h)
def LI.add{ls:List (List Fact)}{f:Fact}(L:LI d H ls sT)(Hy:f.m=d+2)(tR:d<=8)(G:GH (ls.flatten++[f]) (20*d+18) H')(C:mB (ls.flatten++[f]) H'.k)(E:Ext H H')(Q:H'.aN=[])
 (T:∀t v,H.k.aA t=some v->H'.k.aA t=some v):LI (d+1) H' (qD ls f) sT:=by
 have hn:=L.nl;have ba:ls≠[]:=by rintro rfl;simp at hn
 have cW:=aiQ ba f;have Hz:=aiR ba f;refine{gh:=by rw[cW];exact G.weaken (a9 (.add (.mulL 20 af) (.num 18)) (.mulL 20 az) [] rfl),cp:=by rw[cW];exact C,fo:=⟨λg hg=> ?_, ?_⟩,fb:=λg hg=> ?_,len:=by rw[cW,bM];have:=L.len;(exact aG az aK [.l af ak] rfl this),ag:=λt x hx=> ?_,qe:=Q,nl:=by rw[Hz,E.bt];exact hn,lv:=by rw[Hz];have:=L.lv;(exact aG af (.add aK aX) [.l af aK] rfl this),lt:=λt x hx=>by rw[Hz];exact L.lt t x hx,nt:=L.nt,mm:=by rw[E.bt];exact L.mm,sn:=λi mk h=> ?_}
 .rw[cW]at hg;rcases dA.mp hg with h|h
  .exact L.fo.nz g h
  .rw[bV]at h;rw[h];rw[Hy];exact⟨wY ..,HX tR 2⟩
 .rw[cW,cD];refine j5.mpr ⟨L.fo.nd,by simp,λa ha b hb e=> ?_⟩;obtain⟨g,hg,rfl⟩:=d4.mp ha;rw[eP,Ca,bV]at hb
  exact o9 [.q af (.add ak dw),.q av bo,.q bo af,.l bD (.add ak dw)] rfl Hy e hb (L.fb g hg)
 .rw[cW]at hg;rcases dA.mp hg with h|h
  .have:=L.fb g h;exact aG az (.add aK dw) [.l az (.add ak dw)] rfl this
  .rw[bV]at h;rw[h];exact aG az (.add aK dw) [.e af (.add ak dw)] rfl Hy
 .obtain⟨v,a,b⟩:=L.ag t x hx;exact⟨v,T t v a,b⟩
 .rw[E.bt]at h;have hi:=(b9.mp h).1;have QF:i+1<=ls.length-1:=by rw[hn];exact hi
  have tp:(qD ls f).take (i+1)=ls.take (i+1):=by unfold qD;rw[QD (by rw[zH];exact QF),Ju,QE,vi QF]
  rw[tp];exact(L.sn i mk h).ext E.es E.b (by exact a9 af az [] rfl) λY Y Y=>yA
end
variable{a:Addr}{X:Nat→Prop}{c:ck}{sl nl n0:Nat}
section
structure cH(c:ck)(H:aB)(st:ah)(cl rl sd lv tl:Nat)(al a:Int)(q:LV)(sT:ST)(X:Nat->Prop)(ct:Nat->O):Prop where
 R:Rep c H st
 S:gC c st sd lv tl q sT
 lB:∃ep,st[cl]? =some (.dict (gS a rl al) ep)
 oc:Off c st cl
 nc:cl≠sd/\cl≠lv/\cl≠tl/\∀p∈q,p.1≠cl
 x:∀l,X l->Off c st l/\st[l]? =some (ct l)/\l≠cl/\l≠sd/\l≠lv/\l≠tl/\∀p∈q,p.1≠l
section
variable{st:ah}{cl:Nat}{al a:Int}{ct:Nat->O}
def cH.ev(L:cH c H st cl rl sd lv tl al a q sT X ct)(R:Rep c' H' U)(E:Ev c st c' U):cH c' H' U cl rl sd lv tl al a q sT X ct:=⟨R,L.S.ev E,L.lB.imp λY g=>by rw[E.get cl L.oc];exact g,E.off L.oc,L.nc,λl hl=>have q:=L.x l hl;⟨E.off q.1,by rw[E.get l q.1];exact q.2.1,q.2.2⟩⟩
def cH.pre(L:cH c H st cl rl sd lv tl al a q sT X ct)(P:Pre st U):cH c H U cl rl sd lv tl al a q sT X ct:=L.ev (L.R.pre P) (.nr P)
def cH.evT(L:cH c H st cl rl sd lv tl al a q sT X ct)(R:Rep c' H' U)(S:gC c' U sd lv tl q km)(E:gD tl c st c' U):cH c' H' U cl rl sd lv tl al a q km X ct:=⟨R,S,L.lB.imp λY g=>by rw[E.get cl L.oc L.nc.2.2.1];exact g,E.off _ L.oc,L.nc,λl hl=>have q:=L.x l hl;⟨E.off _ q.1,by rw[E.get l q.1 q.2.2.2.2.2.1];exact q.2.1,q.2.2⟩⟩
def cH.turn{a':Int}(L:cH c H st cl rl sd lv tl al a q sT X ct):cH c H (st.set cl (.dict (gS a' rl al) ep)) cl rl sd lv tl al a' q sT X ct:=by
 obtain⟨e0,g0⟩:=L.lB;obtain⟨n1,n2,n3,n4⟩:=L.nc;refine⟨L.R.set L.oc _, ?_,⟨ep,get_set g0⟩,L.oc.set,L.nc,λl hl=>have q:=L.x l hl;⟨q.1.set,by rw[cv q.2.2.1];exact q.2.1,q.2.2⟩⟩;have S:=L.S;exact{d:=S.d.imp λY g=>by rw[cv (b0 n1)];exact g,l:=by rw[cv (b0 n2)];exact S.l,ql:=λp hp=>by rw[cv (n4 p hp)];exact S.ql p hp,t:=S.t.imp λY g=>by rw[cv (b0 n3)];exact g,od:=S.od.set,ol:=S.ol.set,ot:=S.ot.set,oq:=λp hp=>(S.oq p hp).set,n1:=S.n1,n2:=S.n2,n3:=S.n3,n4:=S.n4,nq:=S.nq,nt:=S.nt}
def yK{row:List Int}{many:Int}(L:cH c H st cl rl sd lv tl al a q sT X ct)(hX:X rl)(yL:ct rl= .list (row.map .int))(ha:0<=a/\a<=10000)(ox:0<=al/\al<=1000)(hm:0<many)
 (k:∀i U,0<=i->i<many->cH c H U cl rl sd lv tl al (a+1) q sT X ct->Q (.int i) U):wp ((ip (n+30)).call (sz "",sz "_law_turn") [.ab cl,.int many]) Q st:=by
 obtain⟨ep,g⟩:=L.lB;obtain⟨o,b,r⟩:=L.x rl hX;rw[yL]at b;exact OM g b r.1 ha ox hm λi h1 h2=>k i _ h1 h2 L.turn
def aiS{i:Int}(h0:0<=i)(h9:i<9)(k:∀t:aW,Q (gZ (aV t)) st):wp (getItem Bu (.int i)) Q st:=by
 obtain⟨j,rfl⟩:=Ax h0;have hj:j<9:=jm.mp h9;have hg:(fZ.map λt=>gZ (aV t))[j]? =some (gZ (aV ⟨j,hj⟩)):=by
  have h1:∀t:aW,fZ[t.val]? =some t:=by decide
  rw[fh,h1 ⟨j,hj⟩];rfl
 unfold Bu getItem;rw[MI,p6 (a8 (by decide))];rw[show idx (fZ.map λt=>gZ (aV t)).length (j:Int)=some j from by unfold idx;rw[if_pos (by assumption),if_pos (by assumption)];rfl];simp only[Jr,hg,pZ];exact k _
def Cn{t:Th}(h:st[sl]? =some (.list (things.map tm))):wp (getItem (.ab sl) (ix t)) Q st=Q (tm t) st:=qf h (by rw[fh,Oy];rfl) rfl
def cH.level(L:cH c H st cl rl sd lv tl al a q sT X ct)(hO:Off c st nl)(hg:st[nl]? =some (.list []))(hn:n0<=nl)
 (cB:cl<n0/\sd<n0/\lv<n0/\tl<n0/\(∀p∈q,p.1<n0)/\∀l,X l->l<n0):
 cH c H (st.set lv (.list ((q++[((nl,[]):Nat×List Fact)]).map λp=>.ab p.1))) cl rl sd lv tl al a (q++[(nl,[])]) sT X ct:=by
 obtain⟨e0,g0⟩:=L.lB;obtain⟨n1,n2,n3,n4⟩:=L.nc;obtain⟨l1,l2,l3,l4,l5,l6⟩:=cB;have S:=L.S;have hnq:∀p∈q,p.1≠nl:=λp hp=>by have:=l5 p hp;exact cO [.l af ak,.l bD af,.q av ak] rfl hn this
 refine⟨L.R.set S.ol _, ?_,⟨e0,by rw[cv n2];exact g0⟩,L.oc.set,⟨n1,n2,n3,λp hp=> ?_⟩,λl hl=> ?_⟩
 .refine{d:= ?_,l:=get_set S.l,ql:=λp hp=> ?_,t:= ?_,od:=S.od.set,ol:=S.ol.set,ot:=S.ot.set,oq:=λp hp=> ?_,n1:=S.n1,n2:=S.n2,n3:=S.n3,n4:=λp hp=> ?_,nq:= ?_,nt:=S.nt}
  .obtain⟨e,g⟩:=S.d;exact⟨e,by rw[cv S.n1];exact g⟩
  .rcases dA.mp hp with hp|hp
   .rw[cv (S.n4 p hp).2.1];exact S.ql p hp
   .rw[bV]at hp;subst hp;rw[cv (by(exact cO [.l af ak,.l bD af,.e ak av] rfl hn l3))];exact hg
  .obtain⟨e,g⟩:=S.t;exact⟨e,by rw[cv (b0 S.n3)];exact g⟩
  .rcases dA.mp hp with hp|hp
   .exact(S.oq p hp).set
   .rw[bV]at hp;subst hp;exact hO.set
  .rcases dA.mp hp with hp|hp
   .exact S.n4 p hp
   .rw[bV]at hp;subst hp;lia
  .rw[cD];refine j5.mpr ⟨S.nq,by simp,λx hx y hy e=> ?_⟩;obtain⟨p,hp,rfl⟩:=d4.mp hx;simp only[eP,Ca,bV]at hy;exact hnq p hp (e.trans hy)
 .rcases dA.mp hp with hp|hp
  .exact n4 p hp
  .rw[bV]at hp;subst hp;exact cO [.l af ak,.l bD af,.e ak av] rfl hn l1
 .obtain⟨x1,x2,x3,x4,x5,x6,x7⟩:=L.x l hl;have:=l6 l hl;refine⟨x1.set,by rw[cv x5];exact x2,x3,x4,x5,x6,λp hp=> ?_⟩;rcases dA.mp hp with hp|hp
  .exact x7 p hp
  .rw[bV]at hp;subst hp;exact cO [.l af ak,.l bD af,.e ak av] rfl hn this
def cH.fact{q0:LV}{ll:Nat}{fs:List Fact}{f:Fact}(L:cH c H st cl rl sd lv tl al a (q0++[(ll,fs)]) sT X ct):cH c H (st.set ll (.list ((fs++[f]).map fM))) cl rl sd lv tl al a (q0++[(ll,fs++[f])]) sT X ct:=by
 obtain⟨e0,g0⟩:=L.lB;obtain⟨n1,n2,n3,n4⟩:=L.nc;have S:=L.S;have hm:(ll,fs)∈q0++[(ll,fs)]:=by simp
 have uX:∀p∈q0++[(ll,fs++[f])],∃p'∈q0++[(ll,fs)],p'.1=p.1:=λp hp=>by
  rcases dA.mp hp with h|h
  .exact⟨p,gT _ h,rfl⟩
  .rw[bV]at h;subst h;exact⟨_,hm,rfl⟩
 have aiT:(q0++[(ll,fs++[f])]).map (·.1)=(q0++[(ll,fs)]).map (·.1):=by simp
 obtain⟨m1,m2,m3⟩:=S.n4 _ hm;refine⟨L.R.set (S.oq _ hm) _, ?_,⟨e0,by rw[cv (b0 (n4 _ hm))];exact g0⟩,L.oc.set,⟨n1,n2,n3,λp hp=> ?_⟩,λl hl=> ?_⟩
 .refine{d:= ?_,l:= ?_,ql:=λp hp=> ?_,t:= ?_,od:=S.od.set,ol:=S.ol.set,ot:=S.ot.set,oq:=λp hp=> ?_,n1:=S.n1,n2:=S.n2,n3:=S.n3,n4:=λp hp=> ?_,nq:=by rw[aiT];exact S.nq,nt:=S.nt}
  .obtain⟨e,g⟩:=S.d;exact⟨e,by rw[cv (b0 m1)];exact g⟩
  .rw[cv (b0 m2),S.l];simp
  .rcases dA.mp hp with h|h
   .have ba:p.1≠ll:=by
     have:=S.nq;rw[cD]at this;exact(j5.mp this).2.2 p.1 (xI (f:=(·.1)) h) ll (by simp)
    rw[cv ba];exact S.ql p (gT _ h)
   .rw[bV]at h;subst h;exact get_set (S.ql _ hm)
  .obtain⟨e,g⟩:=S.t;exact⟨e,by rw[cv (b0 m3)];exact g⟩
  .obtain⟨p',h1,h2⟩:=uX p hp;rw[<-h2];exact(S.oq p' h1).set
  .obtain⟨p',h1,h2⟩:=uX p hp;rw[<-h2];exact S.n4 p' h1
 .obtain⟨p',h1,h2⟩:=uX p hp;rw[<-h2];exact n4 p' h1
 .obtain⟨x1,x2,x3,x4,x5,x6,x7⟩:=L.x l hl;refine⟨x1.set,by rw[cv (b0 (x7 _ hm))];exact x2,x3,x4,x5,x6,λp hp=> ?_⟩;obtain⟨p',h1,h2⟩:=uX p hp;rw[<-h2];exact x7 p' h1
def cH.slice(L:cH c H st cl rl sd lv tl al a q sT X ct)(hO:Off c st nl)(hg:st[nl]? =some (.list ((q.take j).map λp=>.ab p.1)))(hn:n0<=nl)
 (cB:cl<n0/\sd<n0/\lv<n0/\tl<n0/\(∀p∈q,p.1<n0)/\∀l,X l->l<n0):cH c H (st.set sd (.dict (nK nl tl) ep)) cl rl sd nl tl al a (q.take j) sT X ct:=by
 obtain⟨e0,g0⟩:=L.lB;obtain⟨n1,n2,n3,n4⟩:=L.nc;obtain⟨l1,l2,l3,l4,l5,l6⟩:=cB;have S:=L.S;have gz:∀p∈q.take j,p∈q:=λp hp=>aiP hp;refine⟨L.R.set S.od _, ?_,⟨e0,by rw[cv n1];exact g0⟩,L.oc.set,⟨n1,cO [.l af ak,.l bD af,.q av ak] rfl hn l1,n3,λp hp=>n4 p (gz p hp)⟩,λl hl=> ?_⟩
 .refine{d:= ?_,l:=by rw[cv (by exact cO [.l af ak,.l bD af,.e ak av] rfl hn l2)];exact hg,ql:=λp hp=> ?_,t:= ?_,od:=S.od.set,ol:=hO.set,ot:=S.ot.set,oq:=λp hp=>(S.oq p (gz p hp)).set,n1:=cO [.l af ak,.l bD af,.q av ak] rfl hn l2,n2:=S.n2,n3:=cO [.l af ak,.l bD af,.e ak av] rfl hn l4,n4:=λp hp=> ?_,nq:= ?_,nt:=S.nt}
  .obtain⟨e,g⟩:=S.d;exact⟨ep,get_set g⟩
  .rw[cv (S.n4 p (gz p hp)).1];exact S.ql p (gz p hp)
  .obtain⟨e,g⟩:=S.t;exact⟨e,by rw[cv (b0 S.n2)];exact g⟩
  .have:=l5 p (gz p hp);obtain⟨a1,a2,a3⟩:=S.n4 p (gz p hp);exact⟨a1,cO [.l af ak,.l bD af,.q av ak] rfl hn this,a3⟩
  .exact S.nq.sublist ((List.take_sublist _ _).map _)
 .obtain⟨x1,x2,x3,x4,x5,x6,x7⟩:=L.x l hl;exact⟨x1.set,by rw[cv x4];exact x2,x3,x4,cO [.l af ak,.l bD af,.q av ak] rfl hn (l6 l hl),x6,λp hp=>x7 p (gz p hp)⟩
def cH.aiU{nd:Nat}{e2:Nat}(L:cH c H st cl rl sd lv tl al a q sT X ct)(hO:Off c st nd)(hg:st[nd]? =some (.dict (enc bJ gB km) (some e2)))(yM:(km.map (·.1)).Nodup)(hn:n0<=nd)
 (cB:cl<n0/\sd<n0/\lv<n0/\tl<n0/\(∀p∈q,p.1<n0)/\∀l,X l->l<n0):cH c H (st.set sd (.dict (nK lv nd) ep)) cl rl sd lv nd al a q km X ct:=by
 obtain⟨e0,g0⟩:=L.lB;obtain⟨n1,n2,n3,n4⟩:=L.nc;obtain⟨l1,l2,l3,l4,l5,l6⟩:=cB;have S:=L.S;refine⟨L.R.set S.od _, ?_,⟨e0,by rw[cv n1];exact g0⟩,L.oc.set,⟨n1,n2,cO [.l af ak,.l bD af,.q av ak] rfl hn l1,n4⟩,λl hl=> ?_⟩
 .refine{d:= ?_,l:=by rw[cv (b0 S.n1)];exact S.l,ql:=λp hp=> ?_,t:=⟨e2,by rw[cv (by exact cO [.l af ak,.l bD af,.e ak av] rfl hn l2)];exact hg⟩,od:=S.od.set,ol:=S.ol.set,ot:=hO.set,oq:=λp hp=>(S.oq p hp).set,n1:=S.n1,n2:=cO [.l af ak,.l bD af,.q av ak] rfl hn l2,n3:=cO [.l af ak,.l bD af,.q av ak] rfl hn l3,n4:=λp hp=> ?_,nq:=S.nq,nt:=yM}
  .obtain⟨e,g⟩:=S.d;exact⟨ep,get_set g⟩
  .rw[cv (S.n4 p hp).1];exact S.ql p hp
  .have:=l5 p hp;obtain⟨a1,a2,a3⟩:=S.n4 p hp;exact⟨a1,a2,cO [.l af ak,.l bD af,.q av ak] rfl hn this⟩
 .obtain⟨x1,x2,x3,x4,x5,x6,x7⟩:=L.x l hl;exact⟨x1.set,by rw[cv x4];exact x2,x3,x4,x5,cO [.l af ak,.l bD af,.q av ak] rfl hn (l6 l hl),x7⟩
def cH.lt(L:cH c H st cl rl sd lv tl al a q sT X ct):cl<st.length/\sd<st.length/\lv<st.length/\tl<st.length/\(∀p∈q,p.1<st.length)/\∀l,X l->l<st.length:=⟨L.oc.lt,L.S.od.lt,L.S.ol.lt,L.S.ot.lt,λp hp=>(L.S.oq p hp).lt,λl hl=>(L.x l hl).1.lt⟩
def aiV{dl:Nat}:∀(l2 l1:ST) {st:ah} {e:Nat} {R:Unit->ah->Prop},st[dl]? =some (.dict (enc bJ gB l1) (some e))->((l1++l2).map (·.1)).Nodup->(l1++l2).length<=1000->Pre dh st->dh.length<=dl->(∀U e',Pre dh U->U.length=st.length->U[dl]? =some (.dict (enc bJ gB (l1++l2)) (some e'))->R () U)->wp (jf (.ab dl) (l2.map λp=>(bJ p.1,gB p.2))) R st:=by
 intro l2;induction l2 with
 |nil=>intro l1 st e R g _ _ P _ k;rw[Ca,MO];rw[gv]at k;exact k st e P rfl g
 |cons p r ih=>
  intro l1 st e R g hn hl P h0 k;have Ge:p.1∉l1.map (·.1):=by rw[cD]at hn;exact λhm=>(j5.mp hn).2.2 _ hm _ dz rfl
  rw[eP,abM];rw[qc g (sU ..) (by rw[jX mh,Mh Ge];rfl) (a8 (by rw[encl];rw[bM]at hl;(exact aG az cc [.l cI dI] rfl hl)))];have e1:l1++p::r=(l1++[p])++r:=Gf ..;rw[e1]at hn hl k;refine ih (l1++[p]) (e:=e+1) ?_ hn hl (P.set h0 _) h0 λU e' P' bY g'=>k U e' P' (by rw[bY,lP]) g';rw[get_set g];simp[enc]
def aiW(l:ST):pairsOf (l.map λp=>.tup [bJ p.1,gB p.2])=some (l.map λp=>(bJ p.1,gB p.2)):=by
 induction l with
 |nil=>exact rfl
 |cons p r ih=>show(some (bJ p.1,gB p.2)).bind (λq=>(pairsOf (r.map λp=>.tup [bJ p.1,gB p.2])).map (q::·))=_;rw[ih];rfl
def aiX{m:ST}(h:st[l]? =some (.list (m.map λp=>.tup [bJ p.1,gB p.2])))(hn:(m.map (·.1)).Nodup)(hl:m.length<=1000)
 (k:∀d U e,Pre st U->d=st.length->U[d]? =some (.dict (enc bJ gB m) (some e))->Q (.ab d) U):wp (fC .dict [.ab l]) Q st:=by
 unfold fC;dsimp only;rw[aZ,xQ,aZ,abD,aZ,AR h];show wp (bd (op (pairsOf _)) _) Q st;rw[aZ,aiW,pZ,aZ];refine Bo λd au P1 e1 L1 g1=> ?_;rw[aZ];refine aiV (dh:=st) m [] (e:=0) g1 (by assumption) (by assumption) P1 (aG ak af [.q af ak] rfl e1) λU e' P' bY g'=> ?_;rw[bC];exact k d U e' P' e1 g'
def up1{a:Int}:a<=a+1/\a+1<=a+3:=⟨aiY (by decide),HB (by decide) a⟩
def rU{a:Int}:a<=a+1+1/\a+1+1<=a+3:=by rw[W8];exact⟨aiY (by decide),HB (by decide) a⟩
def aiZ{n:Nat}{row:List Int}{Q:V->ah->Prop}(L:cH c H st cl rl sd lv tl al a q sT X ct)(I:LI d H (q.map (·.2)) sT)(F:Full H sT)(hd:d<=10)(tR:d<=8)
 (hX:X rl) (yL:ct rl= .list (row.map .int)) (hX2:X sl) (xY:ct sl= .list (things.map tm)) (ha:0<=a/\a<=9000) (ox:0<=al/\al<=1000)
 (k:∀c' H' U lv' tl' a' q' km,cH c' H' U cl rl sd lv' tl' al a' q' km X ct->a<=a'->a'<=a+3->LI (d+1) H' (q'.map (·.2)) km->c'.ab .inst=c.ab .inst->Q .none U):
 wp ((ip (n+300)).call (sz "",sz "_law_deed") [.ab cl,.ab (c.ab .inst),.ab sd,.ab sl,.int ((d+2:Nat):Int)]) Q st:=by
 walk_at "go";done;have jB:0<=a+1/\a+1<=10000:=⟨yr ha.1 (by decide),k5 (ahc ha.2 1) (by decide)⟩;refine yK L hX yL ⟨ha.1,k5 ha.2 (by decide)⟩ ox (by decide) λway au w0 w6 L1=> ?_;have cL:=L1.R;have fQ:q.length=H.bt.length+1:=by have:=I.nl;rwa [aP]at this
 have yN:q.length<=d+1:=by have:=I.lv;rwa [aP]at this
 have aj9:∀t,(H.k.mem t).length<=70:=λt=>by have:=I.gh.S.size.2 t;have:=(nM H.k t).1;have:=I.len;exact dC bo (.num 70) [.l af eL,.l af eL,.l ak (.add iO (.mulL 2 av)),.l bo ak,.l av af,.l av af] rfl hd hd (by assumption) (by assumption) this this
 have hN:=I.gh.bk;have hT:=I.gh.aU;done;by_cases h4:way=4
 .rw[if_pos h4];done;refine agI (by exact bq av cK [.l af eL,.q ak bD,.l ak az] rfl hd fQ yN) λaH dr dB=> ?_;have L2:=L1.ev dr dB;done;rw[qy L2.S];ext;rw[qa L2.S.l rfl];ext;refine fm (c:=c) (a8 (by simp)) λnl aQ cU P3 O3 e3 g3=> ?_;ext;have L3:=L2.pre P3;refine vh L3.S.l L3.S.ol.nz (a8 (by rw[aP];(exact aG aK cc [.l af eL,.l ak az] rfl hd yN))) ?_;walk_at "ss";have cB:=L2.lt;refine k c (vA H) _ lv tl (a+1) (q++[(nl,[])]) sT ?_ up1.1 up1.2 ?_ rfl
  .have:=L3.level O3 g3 e3 cB;rw[cD]at this;exact this
  .rw[cD];exact I.push F
 rw[if_neg h4];by_cases h5:way=5
 .done;rw[if_pos h5];done;rw[qy L1.S];ext;rw[eK L1.S.l];ext;refine yK L1 hX yL jB ox (by rw[aP,fQ];exact jm.mpr (As _)) λmany aH m0 m1 L2=> ?_;rw[aP]at m1;have dr:=L2.R;obtain⟨m,rfl⟩:=Ax m0;obtain⟨j,hj⟩:=Nat.exists_eq_add_of_lt (show m<q.length from jm.mp m1);done;refine wp_mono (Q:=λY aQ=>∃c3 H3,cH c3 H3 aQ cl rl sd lv tl al (a+1+1) q sT X ct/\LI (d+1) H3 ((q.take (j+1)).map (·.2)) (below (j+1) sT)/\c3.ab .inst=c.ab .inst) ?_ ?_
  .by_cases HC:m=0
   .subst HC;refine agL ⟨c,H,L2, ?_,rfl⟩;rw[zJ (by rw[hj,nP];exact bG _),aiN I.nt (λt x hx=>by have:=I.lt t x hx;rwa [aP,hj,nP]at this)];exact I.weaken
   .have QG:H.bt.length=m+j:=iS (fQ.symm.trans hj);have qC:j<H.bt.length:=QG▸Nat.lt_add_of_pos_left (ai0 HC);have iH:H.bt=H.bt.take j++H.bt[j]::H.bt.drop (j+1):=by
     conv=>lhs;rw[<-BF j H.bt]
     rw[uM qC]
    have h1:(H.bt.take j).length=j:=ai1 (pB qC);have h2:(H.bt.drop (j+1)).length+1=m:=by rw[J5,QG];exact(congrArg (λx=>Eg x+1) (Nat.add_sub_cancel (n:=m) (m:=j))).trans (Nat.succ_pred HC)
    generalize H.bt.take j=fP at iH h1;generalize H.bt.drop (j+1)=oS at iH h2;obtain⟨K,tr,es,e1,e2,e3,e4⟩:=I.pop iH;refine s_pop (show(m:Int)=(oS.length:Int)+1 by rw[<-h2];rfl) iH e3 e1 e2 (by lia) (by exact bq av cK [.l af eL,.q ak bD,.l ak az] rfl hd fQ yN) (by exact a9 af d9 [.l af ig] rfl hN) λc3 aQ cU dG=>⟨c3,_,L2.ev cU dG, ?_,dG.inst⟩;rw[h1,<-tC]at e4;exact e4
  intro v aQ bz;obtain⟨c3,H3,L3,I3,iE⟩:=bz;have cU:=L3.R;rw[<-iE];done;rw[qy L3.S];ext;rw[qy L3.S];ext;rw[eK L3.S.l];ext;rw[d5 L3.S.l,show(((q.map λp=>V.ab p.1).length:Nat):Int)-((m:Nat):Int)=((j+1:Nat):Int) by rw[aP,hj,nO];exact Int.sub_eq_iff_eq_add.mpr ((Int.natCast_add m (j+1)).trans (KL ..)),sZ (by rw[aP,hj];exact mQ (wY j m))];ext;refine fm (c:=c3) (a8 (bx (vj _ _) (by rw[aP];exact aG ak cc [.l af eL,.l ak az] rfl hd yN))) λnl b6 ft P4 O4 e4 g4=> ?_;ext;have L4:=L3.pre P4;obtain⟨QH,gd4⟩:=L4.S.d;rw[rL gd4 B0 (x:=.ab lv) rfl];ext;rw[show ec (nK lv tl) (.str (sz "levels")) (.ab nl)=nK nl tl from rfl];have L5:=L4.slice (j:=j+1) (ep:=QH) O4 (by rw[g4,tC]) e4 L3.lt;generalize gj b6 sd (.dict (nK nl tl) QH)=dE at L5;have gk:=L5.R;done;ext;rw[tE L5.S];obtain⟨ep5,QI⟩:=L5.S.t;have yM:=L5.S.nt;have QJ:sT.length<=9:=by have:=oK yM;rwa [aP]at this
  rw[MR QI (nv oI _)];ext;have GJ:(q.take (j+1)).length=j+1:=ai1 (hj▸mQ (wY j m));refine ab5 (ys:=sT) (λp=>decide (p.2.2<j+1)) (λp=>.tup [bJ p.1,gB p.2]) QI oI (by unfold bp;(exact a9 az eT [.l af ig] rfl QJ)) ?_ ?_
  .intro p P hp re;have zU:lk sT p.1=some p.2:=xH yM hp;ext;rw[tE L5.S];ext;rw[GY L5.S zU];unfold gB;ext;rw[qy L5.S];ext;rw[eK L5.S.l];ext;rw[aP,GJ];by_cases hc:p.2.2<j+1
   .rw[decide_eq_true hc]at re;rw[if_pos (jm.mpr hc)];ext;rw[tE L5.S];ext;rw[GY L5.S zU];ext;exact re
   .rw[decide_eq_false hc]at re;rw[if_neg (λe=>hc (jm.mp e))];exact re
  rw[show(sT.filter λp=>decide (p.2.2<j+1))=below (j+1) sT from rfl];have QK:((below (j+1) sT).map (·.1)).Nodup:=yM.sublist ((yG ..).map _);have tj:(below (j+1) sT).length<=9:=by have:=jU (λp:aW×(Int×Nat)=>decide (p.2.2<j+1)) sT;unfold below;exact aG ak ig [.l af ig,.l ak af] rfl QJ this
  refine fm (c:=c3) (a8 (by rw[aP];(exact a9 af cc [.l af ig] rfl tj))) λml dF iZ P6 O6 e6 g6=> ?_;ext;have L6:=L5.pre P6;refine aiX g6 QK (by exact a9 af dI [.l af ig] rfl tj) λnd jA e7 P7 QL g7=> ?_;have L7:=L6.pre P7;obtain⟨QM,gd7⟩:=L7.S.d;ext;rw[rL gd7 B0 (x:=.ab tl) rfl];ext;rw[show ec (nK nl tl) (.str (sz "told")) (.ab nd)=nK nl nd from rfl];have L8:=L7.aiU (nd:=nd) (ep:=QM) (e2:=e7) (km:=below (j+1) sT) ⟨(b9.mp g7).1,λr e=>by have:=iZ.lt r;(exact cO [.q af ak,.q av af,.l bD ak] rfl QL e this),λe=>by have:=iZ.lt .inst;lia⟩ g7 QK (by exact aG ak af [.q af ak] rfl QL) L6.lt;generalize gj jA sd (.dict (nK nl nd) QM)=i5 at L8;walk_at "ss";exact k c3 H3 i5 nl nd (a+1+1) _ _ L8 rU.1 rU.2 I3 iE
 done;rw[if_neg h5];done;refine yK L1 hX yL jB ox (by decide) λj aH j0 j9 L2=> ?_;have dr:=L2.R;refine aiS j0 j9 λt=> ?_;ext;done;done;rw[qy L2.S];ext;have cW:(q.map (·.2)).flatten.length<=d:=I.len;ext;refine OH L2.S.l L2.S.ql (by exact aG ak cK [.l af eL,.l ak az] rfl hd yN) (by exact aG ak dI [.l af eL,.l ak af] rfl hd cW) λfl aQ P3 Y g3=> ?_;have L3:=L2.pre P3;ext;refine cG (a8 (by simp)) λf1 b6 P4 e4 o9 g4=> ?_;ext;have L4:=L3.pre P4;rw[sY (P4 _ _ g3) g4];ext;have ai2:V.tup [V.bool (decide (way<3)),ix (aV t).1,ix (aV t).2,V.int ((d+2:Nat):Int)]=fM ⟨decide (way<3),(aV t).1,(aV t).2,d+2⟩:=rfl;rw[show(q.map (·.2)).flatten.map fM++[V.tup [V.bool (decide (way<3)),ix (aV t).1,ix (aV t).2,V.int ((d+2:Nat):Int)]]=((q.map (·.2)).flatten++[(⟨decide (way<3),(aV t).1,(aV t).2,d+2⟩:Fact)]).map fM by rw[cD];rfl];refine cG (a8 (by rw[aP,bM,fK];(exact aG aK cc [.l af eL,.l ak af] rfl hd cW))) λf2 dE P5 e5 yS g5=> ?_;ext;have L5:=L4.pre P5;ext;refine ag8 g5 (by rw[bM,fK];(exact aG aK cK [.l af eL,.l ak af] rfl hd cW)) λdF P6=> ?_;have L6:=L5.pre P6;have iZ:=L6.R;ext;cases hc:yo ((q.map (·.2)).flatten++[(⟨decide (way<3),(aV t).1,(aV t).2,d+2⟩:Fact)])with
 |true=>rw[if_neg (by simp)];walk_at "ss";exact k c H dF lv tl (a+1+1) q sT L6 rU.1 rU.2 I.weaken rfl
 |false=>
  have Co:=(ahN _).mp hc;rw[if_pos (by simp)];have ba:q≠[]:=by rintro rfl;simp at fQ
  have iH:=(uq ba).symm;generalize q.dropLast=q0 at iH;generalize q.getLast ba=lst at iH;obtain⟨ll,fs⟩:=lst;subst iH;clear ba;done;rw[qy L6.S];ext;have QN:=L6.S.l;rw[cD]at QN;rw[ML QN (by rfl)];ext;have HD:=L6.S.ql (ll,fs) (by simp);simp only at HD;rw[qa HD rfl];ext;have ai3:fs.length<=d:=by simp only[cD,eP,Ca,BV,ag6,List.flatten_nil,gv,bM]at cW;exact bq ak av [.l cI av] rfl cW
  refine vh HD (L6.S.oq (ll,fs) (by simp)).nz (a8 (by rw[aP];(exact aG aK cc [.l af eL,.l ak af] rfl hd ai3))) ?_;ext;rw[ai2,show fs.map fM++[fM ⟨decide (way<3),(aV t).1,(aV t).2,d+2⟩]=(fs++[(⟨decide (way<3),(aV t).1,(aV t).2,d+2⟩:Fact)]).map fM by rw[cD];rfl];have L7:=L6.fact (f:=⟨decide (way<3),(aV t).1,(aV t).2,d+2⟩);generalize gj dF ll (.list ((fs++[(⟨decide (way<3),(aV t).1,(aV t).2,d+2⟩:Fact)]).map fM))=jA at L7;have mu:=L7.R;obtain⟨vx,j8,_⟩:=L7.x sl hX2;rw[xY]at j8;have Cp:(q0++[(ll,fs++[(⟨decide (way<3),(aV t).1,(aV t).2,d+2⟩:Fact)])]).map (·.2)=qD ((q0++[(ll,fs)]).map (·.2)) ⟨decide (way<3),(aV t).1,(aV t).2,d+2⟩:=by unfold qD;rw[cD,cD];simp
  done;by_cases h3:way<3
  .rw[if_pos h3];simp only[h3,decide_true]at Co Cp L7;done;rw[Cn j8];ext;rw[Cn j8];ext;obtain⟨m1,m2,m3,m4,m5,m6⟩:=ail I.gh I.cp (by exact HY [.e (.add af dw) iN] rfl) (by have:=I.len;(exact aG ak (.num 19) [.l af eL,.l ak af] rfl hd cW)) (bx (IP 20 hd) (by decide)) Co;refine agG I.qe m1 (by lia) λc8 i5 lx gA=> ?_;walk_at "ss";refine k c8 _ i5 lv tl (a+1+1) _ sT (L7.ev lx gA) rU.1 rU.2 ?_ gA.inst;rw[Cp];exact I.add rfl tR m2 m3 m4 m5 m6
  .rw[if_neg h3];simp only[h3,decide_false]at Co Cp L7;done;rw[Cn j8];ext;rw[Cn j8];ext;obtain⟨m1,m2,m3,m4,m5,m6⟩:=aim I.gh I.cp (by have:=I.len;(exact aG ak (.num 19) [.l af eL,.l ak af] rfl hd cW)) Co;have hB:∀t,wt H.k t<=50:=λt=>by have:=I.gh.S.size.2 t;exact bq av (.num 50) [.l af eL,.l af eL,.l ak af,.l ak af,.l av (.add iO (.mulL 2 ak))] rfl hd hd cW cW this
   refine agH I.qe m1 (λt=>by have:=hB t;have:=(nM H.k t).2.2.1;(exact aG ak nS [.l af (.num 50),.l ak af] rfl (by assumption) this)) (λt=>by have:=hB t;have:=(nM H.k t).2.2.2;(exact aG ak nS [.l af (.num 50),.l ak af] rfl (by assumption) this)) (by exact a9 af d9 [.l af ig] rfl hN) (by lia) λc8 i5 lx gA=> ?_;walk_at "ss";refine k c8 _ i5 lv tl (a+1+1) _ sT (L7.ev lx gA) rU.1 rU.2 ?_ gA.inst;rw[Cp];exact I.add rfl tR m2 m3 m4 (m5.trans I.qe) m6
end
end
abbrev iL(l:List Int):O:=.list (l.map .int)
abbrev nL(n:Nat):List O:=List.replicate n (.list [])
abbrev sL(l:List String):O:=.list (l.map λs=>.str (sz s))
abbrev i2(a b:Int):V:=.tup [.int a,.int b]
abbrev fL(l:List (String×V)):List (Str×V):=l.map λp=>(sz p.1,p.2)
abbrev t7(l:List V):O:=.dict ([3,4,5,6,7,8,9].zipWith (λ(k:Int) v=>(.int k,v)) l) (some 7)
abbrev m7(i:Nat):O:=t7 ([42,51,60,69,79,89,98].map λl=>.ab (l+i))
abbrev eqs:List (Int×Int×Int):=[(10,3,4),(11,4,5),(12,3,5),(13,6,7),(14,3,8),(15,5,9),(16,6,8),(17,7,9),(18,8,9)]
abbrev HF:List (String×List Int×Int×V):=[("true",[],0,.int 0),("false",[],0,.int 0),("app",[],1,.int 1),("app",[],1,.int 2),("app",[],1,.int 3),("app",[3],1,.int 0),("app",[4],1,.int 0),("num",[],1,i2 0 1),("num",[],1,i2 1 1)]++eqs.map λe=>("=",[e.2.1,e.2.2],0,.int 0)
abbrev QO(K:List (String×List Int×Int×V))(f a r:O):List O:=
 [.inst (sz "Bank") (fL [("sort_names",.ab 5),("sort_widths",.ab 6),("fun_names",.ab 7),("fun_args",.ab 8),("fun_results",.ab 9),("fresh_count",.int 0),("term_ops",.ab 10),("term_args",.ab 11),("term_sorts",.ab 12),("term_datas",.ab 13),("numbers",.ab 14),("true_number",.int 1),("false_number",.int 2)]),sL ["Bool","Int","Real"],iL [0,0,0],f,a,r,sL (""::K.map (·.1)),.list (.tup []::K.map λk=>.tup (k.2.1.map .int)),iL (0::K.map (·.2.2.1)),.list (.int 0::K.map (·.2.2.2)),.dict (K.zipIdx.map λp=>(.tup [.str (sz p.1.1),.tup (p.1.2.1.map .int),.int p.1.2.2.1,p.1.2.2.2],.int (p.2+1))) (some K.length)]
abbrev QP:List O:=QO (HF.take 2) (.list []) (.list []) (.list [])
abbrev en(t:Int)(l:Nat):V:=.tup [.str (sz "enter"),.int t,.ab l]
abbrev tb(a:Int):V:=.tup [.str (sz "table"),i2 0 a,.none]
abbrev cls(W:List (Int×Int×Int))(t:Int)(u x:List Int)(n:Nat):List O:=[iL [t],iL u,.list [],iL ((W.filter λe=>e.2.1==t||e.2.2==t).map (·.1)),iL x,iL x]++nL n
abbrev QQ(K:List (String×List Int×Int×V))(q:Nat)(sd:O)(W:List (Int×Int×Int))(nw:List Int):List O:=
 QO K (sL ["f","a","b","c"]) (.list [.tup [.int 1],.tup [],.tup [],.tup []]) (iL [1,1,1,1])++[iL [3,4,5],iL [6,7],iL [3,4,5,6,7],iL [8,9],iL [3,4,5,6,7,8,9],.inst (sz "Congruence") (fL [("bank",.ab 4),("root",.ab 21),("members",.ab 22),("uses",.ab 23),("value",.ab 24),("apart",.ab 25),("watchers",.ab 26),("up",.ab 27),("table",.ab 28),("sides",.ab 29),("told",.ab 30),("news",.ab 31),("queue",.ab q),("clash",.none),("clash_level",.int 0),("trail",.ab 33),("marks",.ab 34)]),t7 ([3,4,5,6,7,8,9].map .int),m7 0,m7 1,t7 ([0,0,0,0,0,8,9].map .int),m7 2,m7 3,.dict [] (some 0),.dict [(i2 0 3,.int 6),(i2 0 4,.int 7)] (some 2),sd,.dict (nw.map λn=>(.int n,.tup [.int (-1),.tup [.int 8,.int 9,.int 0]])) (some nw.length),iL nw,.list [],.list ([en 3 46,en 4 55,en 5 64,en 6 73,tb 3,en 7 83,tb 4,en 8 93,en 9 102]++W.map (λe=>.tup [.str (sz "watch"),.int e.1,.int e.2.1,.int e.2.2])++nw.map λn=>.tup [.str (sz "told"),.int n]),.list [],.dict [(.str (sz "levels"),.ab 37),(.str (sz "told"),.ab 38)] (some 2),.list [],.list [.ab 36],.dict [] (some 0)]++nL 3++cls W 3 [6] [] 3++cls W 4 [7] [] 3++cls W 5 [] [] 3++cls W 6 [] [3] 4++cls W 7 [] [4] 4++cls W 8 [] [] 3++cls W 9 [] [] 0
abbrev aE:List O:=QQ (HF.take 9) 103 (.dict [] (some 0)) [] []
abbrev bW(q:Nat)(n:Nat)(ks nw:List Int):List O:=QQ HF q (.dict (eqs.map λe=>(.int e.1,i2 e.2.1 e.2.2)) (some 9)) (eqs.filter λe=>ks.contains e.1) nw++[.list ([(10,0,1),(11,1,2),(12,0,2),(13,3,4),(14,0,5),(15,2,6),(16,3,5),(17,4,6),(18,5,6)].map λ(e:Int×Int×Int)=>.tup [.int e.1,i2 e.2.1 e.2.2])]++nL n
abbrev bE(w:Nat):List O:=match w with|0=>bW 103 0 [] []|1=>bW 122 18 [10,14,18] [18]|2=>bW 134 30 [10,11,14,15,18] [18]|_=>bW 146 42 [10,11,12,14,15,16,18] [18]
abbrev yO:FD:=lf 23
abbrev QR:List Stmt:=[jI (yO).body 2,jI (yO).body 3]
abbrev QS:List Stmt:=[jI (yO).body 5]
abbrev vv(row lB gg ai4 ai5 state t ai6 asked k u v:Option V):aw:=
 [(aM "script",some (.ab 0)),(aM "row",row),(aM "coil",lB),(aM "bank",gg),(aM "some",ai4),(aM "house",ai5),(aM "state",state),(aM "t",t),(aM "watched",ai6),(aM "asked",asked),(aM "k",k),(aM "u",u),(aM "v",v),(aM "pair",none),(aM "lap",none),(aM "turn",none)]
abbrev v1:aw:=vv (some (.ab 2)) (some (.ab 3)) (some (.ab 4)) none none none none none none none none none
abbrev v3:aw:=vv (some (.ab 2)) (some (.ab 3)) (some (.ab 4)) (some (.ab 19)) (some (.ab 20)) (some (.ab 35)) (some (.int 9)) none none none none none
abbrev v4(w:Int):aw:=vv (some (.ab 2)) (some (.ab 3)) (some (.ab 4)) (some (.ab 19)) (some (.ab 20)) (some (.ab 35)) (some (.int 9)) (some (.int w)) (some (.ab 104)) none none none
abbrev v5(w:Int):aw:=vv (some (.ab 2)) (some (.ab 3)) (some (.ab 4)) (some (.ab 19)) (some (.ab 20)) (some (.ab 35)) (some (.int 18)) (some (.int w)) (some (.ab 104)) (some (.int 8)) (some (.int 5)) (some (.int 6))
def ai7(n:Nat)(o0 o1 o2 o3:O):kJ aY (iR aY (n+60)) (aM "Bank") [] [o0,o1,o2,o3]=some (.ab 4,[o0,o1,o2,o3]++QP):=by kernel_rfl
def ai8(n:Nat)(o0 o1 o2 o3:O):n6 aY (iR aY (n+60)) ⟨yO.scope,v1⟩ QR ([o0,o1,o2,o3]++QP)=some ((.next,v3),[o0,o1,o2,o3]++aE):=by kernel_rfl
def four{P:Nat->Prop}(h0:P 0)(h1:P 1)(h2:P 2)(h3:P 3)(w:Nat)(hw:w<4):P w:=if e0:w=0 then e0▸h0 else if e1:w=1 then e1▸h1 else if e2:w=2 then e2▸h2 else dU (yY hw) (Il (Il (ai0 e0) (b0 e1)) (b0 e2))▸h3
def ai9(n w:Nat)(hw:w<4)(o0 o1 o2 o3:O):n6 aY (iR aY (n+60)) ⟨yO.scope,v4 (w:Int)⟩ QS ([o0,o1,o2,o3]++aE++[.list []])=some ((.next,v5 (w:Int)),[o0,o1,o2,o3]++bE w):=by revert w;refine four ?_ ?_ ?_ ?_<;>kernel_rfl
variable{r:HR}
abbrev bS(w:Nat)(o0 o1 o2 o3:O):ah:=[o0,o1,o2,o3]++bE w
abbrev oL:O->List V|.list xs=>xs|_=>[]
abbrev oF:O->List (Str×V)|.inst _ fs=>fs|_=>[]
abbrev vM(w:Nat)(k:Nat):O:=((bE w)[k-4]?).getD (.list [])
abbrev ai'(w:Nat):Nat:=match((oF (vM w 20))[12]?).map (·.2)with|some (V.ab n)=>n|_=>0
abbrev tx(t:Th):Nat:=[42,51,60,69,79,89,98].getD t.val 0
abbrev rV(w:Nat):HR->Nat
 |.inst=>20|.gg=>4|.gJ=>11|.gK=>13|.ae=>21|.members=>22|.uses=>23|.value=>24|.apart=>25|.watchers=>26|.up=>27|.table=>28|.oE=>29|.aA=>30
 |.bk=>31|.aN=>ai' w|.aU=>33|.bt=>34|.mem t=>tx t|.use t=>tx t+1|.aD t=>tx t+2|.aS t=>tx t+3
abbrev deE:V->aW|.int i=>if h:(i-10).toNat<9 then⟨(i-10).toNat,h⟩else 0|_=>0
abbrev vN(w:Nat):List (aW×Told):=match w with|0=>[]|_=>[((8:aW),(some (5,6,0):Told))]
abbrev H0(w:Nat):aB where
 b:=⟨oL (vM w 33),oF (vM w 4),oL (vM w 11),oL (vM w 13)⟩
 k:=⟨id,λt=>[t],λt=>if t=0 then[3]else if t=1 then[4]else[],λt=>if t=5 then some 5 else if t=6 then some 6 else none,λY=>[],λt=>(oL (vM w (tx t+3))).map deE,λY=>none,lk [((0:Th),(3:Th)),(1,4)],lk (vN w)⟩
 aU:=[]
 bk:=(vN w).map (·.1)
 aN:=[]
 bt:=[]
abbrev c0(w:Nat):ck:=⟨rV w,7,λr=>match r with|.oE=>some 9|_=>some 7,some 0,some 2,some (vN w).length,[],[((0:Th),(3:Th)),(1,4)],vN w⟩
abbrev QT:List HR:=[.inst,.gg,.gJ,.gK,.ae,.members,.uses,.value,.apart,.watchers,.up,.table,.oE,.aA,.bk,.aN,.aU,.bt]
abbrev tF(f:Th->HR):List HR:=things.map f
abbrev vO:List HR:=QT++(tF .mem++(tF .use++(tF .aD++tF .aS)))
def ic(i:Nat)(h:QT[i]? =some r):r∈vO:=gT _ (jL h)
def mT(f:Th->HR)(t:Th):f t∈tF f:=d4.mpr ⟨t,oJ t,rfl⟩
def mR{l l':List HR}(h:r∈l'):r∈l++l':=tI _ h
def mL{l l':List HR}(h:r∈l):r∈l++l':=gT _ h
def yP:∀r,r∈vO:=HR.rec (ic 0 rfl) (ic 1 rfl) (ic 2 rfl) (ic 3 rfl) (ic 4 rfl) (ic 5 rfl) (ic 6 rfl) (ic 7 rfl) (ic 8 rfl) (ic 9 rfl) (ic 10 rfl) (ic 11 rfl) (ic 12 rfl) (ic 13 rfl) (ic 14 rfl) (ic 15 rfl) (ic 16 rfl) (ic 17 rfl)
 (λt=>mR (mL (mT _ t))) (λt=>mR (mR (mL (mT _ t)))) (λt=>mR (mR (mR (mL (mT _ t))))) (λt=>mR (mR (mR (mR (mT _ t)))))
def aja{f:α->Nat}:∀{l:List α},(l.map f).Nodup->∀a∈l,∀b∈l,f a=f b->a=b:=by
 intro l h a ha b hb e;induction l with
 |nil=>cases ha
 |cons c r ih=>
  obtain⟨h1,h2⟩:=d0.mp h;rcases bU.mp ha with ha|ha
  .rcases bU.mp hb with hb|hb
   .exact ha.trans hb.symm
   .exact(h1 (d4.mpr ⟨b,hb,by rw[<-e,ha]⟩)).elim
  .rcases bU.mp hb with hb|hb
   .exact(h1 (d4.mpr ⟨a,ha,by rw[e,hb]⟩)).elim
   .exact ih h2 ha hb
abbrev jr:List Nat:=[2,3,19,35,36,37,38,104]
structure W0(w:Nat):Prop where
 nd:(vO.map (rV w)).Nodup
 off:(vO.map (rV w)).all (λx=> !(0::jr).contains x)=true
 at':∀o0 o1 o2 o3,(vO.map λr=>(bS w o0 o1 o2 o3)[rV w r]?)=vO.map λr=>some (obj (c0 w) (H0 w) r)
 fa:eV (H0 w).b.p9 (aM "term_args")=some (.ab (rV w .gJ))
 fd:eV (H0 w).b.p9 (aM "term_datas")=some (.ab (rV w .gK))
 n1:eV (H0 w).b.p9 (aM "args")=none
 n2:eV (H0 w).b.p9 (aM "data")=none
 a6:(H0 w).b.gJ[6]? =some (.tup [tm 0])
 a7:(H0 w).b.gJ[7]? =some (.tup [tm 1])
 d6:(H0 w).b.gK[6]? =some (.int 0)
 d7:(H0 w).b.gK[7]? =some (.int 0)
 tk:((vN w).map (·.1)).Nodup
 ln:∀o0 o1 o2 o3,pd 105 (bS w o0 o1 o2 o3).length=true
def ajb:W0 0:=by constructor<;>intros<;>first|kernel_rfl|decide+kernel
def ajc:W0 1:=by constructor<;>intros<;>first|kernel_rfl|decide+kernel
def ajd:W0 2:=by constructor<;>intros<;>first|kernel_rfl|decide+kernel
def aje:W0 3:=by constructor<;>intros<;>first|kernel_rfl|decide+kernel
def w0:∀w,w<4->W0 w:=four ajb ajc ajd aje
def rep0(w:Nat)(hw:w<4)(o0 o1 o2 o3:O):Rep (c0 w) (H0 w) (bS w o0 o1 o2 o3):=
 have h:=w0 w hw
 ⟨λr r' e=>aja h.nd r (yP r) r' (yP r') e,λr=>QU.mp (h.at' o0 o1 o2 o3) r (yP r),⟨h.fa,h.fd,F6.mpr ⟨h.n1,F6.mpr ⟨h.n2,λY q=>nomatch q⟩⟩,h.a6,h.a7,h.d6,h.d7⟩,λt=>rfl,uf,λt=>rfl,by show([0,1]:List Th).Nodup;decide,λt=>rfl,h.tk,λr e=>by
   have:=fE.mp h.off _ (d4.mpr ⟨r,yP r,rfl⟩);rw[show rV w r=0 from e]at this;cases this⟩
def rW{w:Nat}(hw:w<4){o0 o1 o2 o3:O}(hl:jr.contains l=true)(ajf:pd l 104=true):Off (c0 w) (bS w o0 o1 o2 o3) l:=
 have h:=w0 w hw
 ⟨iT (pC ajf) (pC (h.ln o0 o1 o2 o3)),λr e=>(by
  have:=fE.mp h.off _ (d4.mpr ⟨r,yP r,rfl⟩);rw[show rV w r=l from e,List.contains_cons,hl,Bool.or_true]at this;cases this),λe=>(by subst e;cases hl)⟩
def QV:∀w:Fin 4,tK id (wt (H0 w.val).k)<=27/\(∀t,wt (H0 w.val).k t<=27)/\(H0 w.val).b.cN.length<=100:=by decide+kernel
def QW:bX []=id:=by funext t;revert t;decide+kernel
def ajg(w:Nat)(hw:w<4):ez [] (H0 w).k:=by
 have hsz:=QV ⟨w,hw⟩;refine⟨λt=>rfl,λr Y t=> ?_,λr Y t=> ?_,λr Y=> ?_,λr Y v=> ?_,λr x h=> ?_,λt ht=> ?_,λx y e=> ?_,⟨λY=>0,(by intro t e h;cases h)⟩,(by intro t p w' h;cases h),(by intro a b e;rw[show a=b from e]),(by intro bz;obtain⟨t,p,h⟩:=bz;cases h),(by intro x s h;cases h),(by intro f h;cases h),λt v h=> ?_,⟨?_,(by intro f h;cases h)⟩,⟨hsz.1,hsz.2.1⟩⟩
 .show t∈[r]<->t=r;simp
 .have k1:∀r t:Th,t∈(if r=0 then[3]else if r=1 then[4]else[]:List Th)<->(t=3\/t=4)/\arg t=r:=by decide+kernel
  exact k1 r t
 .have k1:∀r:Th,(if r=0 then[3]else if r=1 then[4]else[]:List Th).Nodup:=by decide+kernel
  exact k1 r
 .show(if r=5 then some 5 else if r=6 then some 6 else none)=some v<->(v=5\/v=6)/\v=r;have k1:∀r v:Th,(if r=5 then some 5 else if r=6 then some 6 else none:Option Th)=some v<->(v=5\/v=6)/\v=r:=by decide+kernel
  exact k1 r v
 .have h:lk [((0:Th),(3:Th)),(1,4)] r=some x:=h;show(x=3\/x=4)/\arg x=r;have k1:∀r x:Th,lk [((0:Th),(3:Th)),(1,4)] r=some x->(x=3\/x=4)/\arg x=r:=by decide+kernel
  exact k1 r x h
 .show(lk [((0:Th),(3:Th)),(1,4)] (arg t)).isSome=true;revert t;decide+kernel
 .rw[QW];exact e
 .have h:lk (vN w) t=some v:=h;cases w with
  |zero=>cases h
  |succ w=>
   have h:lk [((8:aW),(some (5,6,0):Told))] t=some v:=h;rw[aaK]at h;split at h
   .rename_i e;simp only[eW]at h;subst h;simp only at e;subst e;exact⟨rfl,rfl,.inl ⟨rfl,.inl ⟨rfl,rfl⟩⟩⟩
   .cases h
 .rw[QW];decide
def li0(w:Nat)(hw:w<4):LI 0 (H0 w) [[]] []:=by
 have hsz:=QV ⟨w,hw⟩;refine⟨⟨ajg w hw, ?_,λt=> ?_,dJ _,hsz.2.2⟩,⟨(by intro f h;simp at h),(by intro e;cases e)⟩,⟨(by intro f h;simp at h),by simp⟩,(by intro f h;simp at h),by simp,(by intro t x h;cases h),rfl,rfl,by simp,(by intro t x h;cases h),by simp,(by intro i j a b _ h _;cases h),(by intro i mk h;cases h)⟩
 .exact(w0 w hw).tk
 .have k0:∀t:aW,t∈(([]:List (aW×Told)).map (·.1))<->(lk ([]:List (aW×Told)) t).isSome=true:=λt=>⟨λh=>(nomatch h),λh=>cu h⟩;have k1:∀t:aW,t∈([((8:aW),(some (5,6,0):Told))].map (·.1))<->(lk [((8:aW),(some (5,6,0):Told))] t).isSome=true:=by decide+kernel
  exact four (P:=λw=>t∈(H0 w).bk<->((H0 w).k.aA t).isSome) (k0 t) (k1 t) (k1 t) (k1 t) w hw
variable{k:FK}
section
def QX{xs:List V}{k:Nat}:pb xs none (some (k:Int))=xs.take k:=by
 show(xs.take (clipAt xs.length k)).drop 0=_;rw[clipAt_nat,List.drop_zero];by_cases h:k<=xs.length
 .rw[vi h]
 .rw[Nat.min_eq_right (by exact aG af ak [.l az ak] rfl (vQ.mp h)),jY,zJ (by exact aG af ak [.l az ak] rfl (vQ.mp h))]
def ajh{st:ah}{i:Int}:wp (fC .int [.int i]) Q st=Q (.int i) st:=by unfold fC;simp only[aZ,xQ,MI,bC]
def aji{st:ah}{l:Nat}{xs:List Int}(h:st[l]? =some (.list (xs.map .int))):wp (fC .sum [.ab l]) Q st=Q (.int xs.sum) st:=by unfold fC;dsimp only;rw[aZ,xQ,aZ,d5 h,aZ,OK,pZ,bC]
def QY{r:List Stmt}{Q:Fl×aw->ah->Prop}{U:ah}{l:List Stmt}:∀{aj:aw} {st:ah},n6 aY (ip n) ⟨scope,aj⟩ l st=some ((.next,ax),U)->wp (xs (ip n) ⟨scope,ax⟩ r) Q U->wp (xs (ip n) ⟨scope,aj⟩ (l++r)) Q st:=by
 induction l with
 |nil=>intro aj st h k;cases h;exact k
 |cons s l ih=>
  intro aj st h k;refine p8 ?_;replace h:bd (qS aY (ip n) ⟨scope,aj⟩ s) _ st=_:=h;unfold bd at h;unfold wp;cases e:qS aY (ip n) ⟨scope,aj⟩ s st with
  |none=>rw[e]at h;cases h
  |some p=>
   obtain⟨⟨fl,vs⟩,au⟩:=p;rw[e]at h;cases fl with
   |next=>exact ih h k
   |ret v=>simp only[rt,eW,B']at h;exact cu (congrArg (λf:Fl=>match f with|.next=>true|.ret _=>false) h.1.1)
def ajj{m:M α}{a:α}{st U:ah}{Q:α->ah->Prop}(h:m st=some (a,U))(k:Q a U):wp m Q st:=by unfold wp;rw[h];exact k
section
variable{st:ah}{cl:Nat}{al a:Int}{ct:Nat->O}
def QZ{il:Nat}(iE:c.ab .inst=il)(L:cH c H st cl rl sd lv tl al a q sT X ct)(I:LI d H (q.map (·.2)) sT)(hd:d<=12)
 (k:∀c' U,cH c' (bw H t) U cl rl sd lv tl al a q (fR q sT t) X ct->LI d (bw H t) (q.map (·.2)) (fR q sT t)->c'.ab .inst=il->Q (.bool true) U):
 wp ((ip (n+200)).call (sz "",sz "_law_is_told") [.ab il,.ab sd,bJ t,gZ (aV t)]) Q st:=by
 subst iE;have hR:=L.R;have cW:=I.len;have hB:∀t,wt H.k t<=60:=λt=>by have:=I.gh.S.size.2 t;exact bq av (.num 60) [.l af (.num 12),.l af (.num 12),.l ak af,.l ak af,.l av (.add iO (.mulL 2 ak))] rfl hd hd cW cW this
 have hT:=I.gh.aU;obtain⟨a1,a2,a3,a4⟩:=ask rfl I.gh I.cp I.fo I.ag t;exact ahn L.S (aG aX af [.q af aK] rfl (by have:=I.nl;rwa [aP]at this)) (aG ak cK [.l af (.num 12),.l ak az] rfl hd (by have:=I.lv;rwa [aP]at this)) (aG ak cK [.l af (.num 12),.l ak af] rfl hd cW) (a9 af cK [.l af ig] rfl (by have:=oK I.nt;rwa [aP]at this)) (λt=>by have:=hB t;have:=(nM H.k t).1;lia) (t0:=H.k.ae 0) (I.gh.S.idem 0) (λt=>by have:=hB t;have:=(nM H.k t).2.2.1;lia) (a9 (.add af dw) d9 [.l af ig] rfl I.gh.bk) (by lia)
  a1 a2 a3 λc' U jC sH B8=>k c' U (L.evT jC sH B8) (I.ask t) B8.inst
abbrev tS(l:List aW)(H:aB)(sT:ST):Prop:=∀t∈l,(H.k.aA t).isSome=(lk sT t).isSome
def tS.step{l:List aW}(I:LI d H (q.map (·.2)) sT)(h:tS l H sT):tS (l++[t]) (bw H t) (fR q sT t):=by
 intro y hy;by_cases e:y=t
 .subst e;exact(ask rfl I.gh I.cp I.fo I.ag y).1
 .rw[aiJ e,aiK e];rcases dA.mp hy with hy|hy
  .exact h y hy
  .exact absurd (bV.mp hy) e
end
section
variable{st:ah}{cl:Nat}{al a:Int}{ct:Nat->O}{o:O}
def cH.keep(L:cH c H st cl rl sd lv tl al a q sT X ct)(P:Pre st U)(hO:Off c U l)(hl:st.length<=l)(g:U[l]? =some o):
 cH c H U cl rl sd lv tl al a q sT (λk=>X k\/k=l) (λk=>if k=l then o else ct k):=by
 have L':=L.pre P;have h1:=L.oc.lt;have h2:=L.S.od.lt;have h3:=L.S.ol.lt;have h4:=L.S.ot.lt
 refine⟨L'.R,L'.S,L'.lB,L'.oc,L'.nc,λk hk=> ?_⟩;by_cases e:k=l
 .subst e;rw[if_pos rfl];exact⟨hO,g,cO [.l az ak,.l ak av,.e av af] rfl h1 hl,cO [.l az ak,.l ak av,.e av af] rfl h2 hl,cO [.l az ak,.l ak av,.e av af] rfl h3 hl,cO [.l az ak,.l ak av,.e av af] rfl h4 hl,λp hp=>by have:=(L.S.oq p hp).lt;(exact cO [.l af ak,.l bD af,.q av ak] rfl hl this)⟩
 .rw[if_neg e];rcases hk with hk|hk
  .exact L'.x k hk
  .exact absurd hk e
def cH.drop(L:cH c H st cl rl sd lv tl al a q sT (λk=>X k\/k=l) (λk=>if k=l then o else ct k))(hn:¬X l):cH c H st cl rl sd lv tl al a q sT X ct:=by refine⟨L.R,L.S,L.lB,L.oc,L.nc,λk hk=> ?_⟩;have:=L.x k (.inl hk);rw[if_neg (by rintro rfl;exact hn hk)]at this;exact this
end
abbrev vP(m:Nat):List aW:=fZ.drop m++fZ.take m
def ajk:∀m:Fin 9,(∀t,t∈vP m.val)/\(vP m.val).length=9:=by decide
abbrev tT(t:aW):V:=.tup [bJ t,gZ (aV t)]
abbrev Xs(l:Nat):Prop:=l=2\/l=19\/l=104
abbrev tU(row:List Int)(l:Nat):O:=if l=2 then .list (row.map .int)else if l=19 then .list (things.map tm)else .list (fZ.map tT)
def yQ{P:α->Prop}{a:α}(h:P a):∀p∈[a],P p:=λp hp=>bV.mp hp▸h
structure W1(w:Nat)(st:ah):Prop where
 q3:st[35]? =some (.dict (nK 37 38) (some 2))
 q4:st[37]? =some (.list [.ab 36])
 q5:st[36]? =some (.list [])
 q6:st[38]? =some (.dict [] (some 0))
 q7:st[19]? =some (.list (things.map tm))
 q8:st[104]? =some (.list (fZ.map tT))
def w1{o0 o1 o2 o3:O}:∀w,w<4->W1 w (bS w o0 o1 o2 o3):=four ⟨rfl,rfl,rfl,rfl,rfl,rfl⟩ ⟨rfl,rfl,rfl,rfl,rfl,rfl⟩ ⟨rfl,rfl,rfl,rfl,rfl,rfl⟩ ⟨rfl,rfl,rfl,rfl,rfl,rfl⟩
abbrev ne4(l:Nat):Bool:= !([3,35,36,37,38]:List Nat).contains l
def HG{l:Nat}(h:ne4 l=true):l≠3/\l≠35/\l≠37/\l≠38/\∀p∈[((36,[]):Nat×List Fact)],p.1≠l:=
 have k:∀m,([3,35,36,37,38]:List Nat).contains m=true->m≠l:=λm hm e=>by subst e;unfold ne4 at h;rw[hm]at h;cases h
 ⟨(k 3 rfl).symm,(k 35 rfl).symm,(k 37 rfl).symm,(k 38 rfl).symm,yQ (k 36 rfl)⟩
def ajl(w:Nat)(hw:w<4)(o0 o1:O)(row:List Int)(al:Int)(ep:Option Nat):cH (c0 w) (H0 w) (bS w o0 o1 (.list (row.map .int)) (.dict (gS 1 2 al) ep)) 3 2 35 37 38 al 1 [(36,[])] [] Xs (tU row):=
 have q:=w1 (o0:=o0) (o1:=o1) (o2:=.list (row.map .int)) (o3:=.dict (gS 1 2 al) ep) w hw
 {R:=rep0 w hw _ _ _ _,S:={d:=⟨some 2,q.q3⟩,l:=q.q4,ql:=yQ q.q5,t:=⟨0,q.q6⟩,od:=rW hw rfl rfl,ol:=rW hw rfl rfl,ot:=rW hw rfl rfl,oq:=yQ (rW hw rfl rfl),n1:=by decide,n2:=by decide,n3:=by decide,n4:=yQ (by decide),nq:=by decide,nt:=uf},lB:=⟨ep,rfl⟩,oc:=rW hw rfl rfl,nc:=⟨by decide,by decide,by decide,yQ (by decide)⟩,x:=by
   rintro l (rfl|rfl|rfl)
   .exact⟨rW hw rfl rfl,rfl,HG rfl⟩
   .exact⟨rW hw rfl rfl,q.q7,HG rfl⟩
   .exact⟨rW hw rfl rfl,q.q8,HG rfl⟩}
abbrev vw(t w pair Cq turn:Option V):aw:=
 [(sz "script",some (.ab 0)),(sz "row",some (.ab 2)),(sz "coil",some (.ab 3)),(sz "bank",some (.ab 4)),(sz "some",some (.ab 19)),(sz "house",some (.ab 20)),(sz "state",some (.ab 35)),(sz "t",t),(sz "watched",w),(sz "asked",some (.ab 104)),(sz "k",some (.int 8)),(sz "u",some (.int 5)),(sz "v",some (.int 6)),(sz "pair",pair),(sz "lap",Cq),(sz "turn",turn)]
structure LG where
 c:ck
 H:aB
 lv:Nat
 tl:Nat
 a:Int
 q:LV
 sT:ST
 t:Option V
 w:Option V
 pair:Option V
 Cq:Option V
 turn:Option V
def ajm(n:Nat)(jG:List Int)(hs:jG.length<=63):wp ((ip (n+500)).call (sz "",sz "law") [.ab 0]) (λv Y=>v= .bool true) [.list (jG.map .int)]:=by
 walk_at "go";done;rw[d5 (xs:=jG.map .int) rfl,show(50:Int)=((50:Nat):Int)from rfl,QX];refine F2 1 rfl (a8 (by rw[m8,aP];exact bx (Xg _ _) (by decide))) ?_;rw[src_list (xs:=(jG.map V.int).take 50) rfl];ext;refine xS (ys:=jG.take 50) (f:=V.int) (λi acc (row:List Int) U=>[.list (jG.map .int)]++[.list ((jG.map V.int).take 50)]=U/\acc=row.map .int/\row.length<=i) (g:=[]) ⟨rfl,rfl,bG _⟩ (iT (GS _ _) (by decide)) (λi acc row U h=>by rw[<-h.1,tC];rfl) ?_ ?_
 .intro i x acc row U P hx hI re;ext;rw[ajh];ext;refine BY (by decide) λr r0 r1=> ?_;refine k_rt ?_;have hi:i<50:=eM (b9.mp hx).1 (GS _ _);exact re [.int r] (row++[r]) U (by rw[hI.2.1,aP];exact a8 (bx (mQ hI.2.2) (bx hi (by decide)))) ⟨hI.1,by rw[hI.2.1,cD];rfl,by rw[bM];exact mQ hI.2.2⟩
 intro acc row _ bz;obtain⟨rfl,rfl,hl⟩:=bz;have hrl:row.length<=50:=bx hl (GS _ _);refine F2 2 rfl (a8 (by rw[aP];(exact a9 af cc [.l af (.num 50)] rfl hrl))) ?_;done;refine aeK 3 rfl ?_;ext;rw[aji (xs:=row) rfl];ext;refine BY (by decide) λal a0 a1=> ?_;ext;rw[qc (kvs:=[]) (ep:=some 0) rfl rfl rfl (a8 (by simp))];ext;rw[qc (kvs:=[(.str (sz "at"),.int 0)]) (ep:=some 1) rfl rfl (by kernel_rfl) (a8 (by simp))];ext;rw[qc (kvs:=[(.str (sz "at"),.int 0),(.str (sz "row"),.ab 2)]) (ep:=some 2) rfl rfl (by kernel_rfl) (a8 (by simp))];ext;refine ajj (show kJ aY (ip (n+496)) (sz "Bank") [] [.list (jG.map .int),.list ((jG.map V.int).take 50),.list (row.map .int),.dict (gS 0 2 al) (some 3)]=_ from by unfold ip;exact ai7 (n+436) _ _ _ _) ?_;ext;refine QY (l:=QR) (ax:=v3) (by unfold ip;exact ai8 (n+438) _ _ _ _) ?_;simp only[v3,vv];done;refine OM (row:=row) (a:=0) (rl:=2) (al:=al) (ep:=some 3) rfl rfl (by decide) (by decide) (by lia) (by decide) λi i0 i4=> ?_;ext;refine F2 _ rfl (a8 (by simp)) ?_;ext;obtain⟨w,rfl⟩:=Ax i0;have hw:w<4:=jm.mp i4;refine QY (l:=QS) (ax:=v5 (w:Int)) (by unfold ip;exact ai9 (n+438) w hw (.list (jG.map .int)) (.list ((jG.map V.int).take 50)) (.list (row.map .int)) (.dict (gS (0+1) 2 al) (some 3))) ?_;have L0:cH (c0 w) (H0 w) ([.list (jG.map .int),.list ((jG.map V.int).take 50),.list (row.map .int),.dict (gS (0+1) 2 al) (some 3)]++bE w) 3 2 35 37 38 al 1 [(36,[])] [] Xs (tU row):=ajl w hw _ _ row al (some 3);have I0:=li0 w hw;have HH:(c0 w).ab .inst=20:=rfl;generalize([.list (jG.map .int),.list ((jG.map V.int).take 50),.list (row.map .int),.dict (gS (0+1) 2 al) (some 3)]++bE w:ah)=dh at L0;generalize c0 w=cA at L0 HH;generalize H0 w=HA at L0 I0;simp only[v5,vv];done;ext;obtain⟨_,rX,_⟩:=L0.x 104 (.inr (.inr rfl));rw[show tU row 104= .list (fZ.map tT)from rfl]at rX;rw[src_list rX];ext;refine xS (ys:=fZ) (f:=tT) (λi acc (g:LG) U=>g.c.ab .inst=20/\cH g.c g.H U 3 2 35 37 38 al 1 [(36,[])] g.sT Xs (tU row)/\LI 0 g.H [[]] g.sT/\tS (fZ.take i) g.H g.sT/\acc=[])
  (g:=⟨cA,HA,0,0,0,[],[],none,none,none,none,none⟩) ⟨HH,L0,I0,nofun,rfl⟩ (by decide) (λi acc g U h=>(h.2.1.x 104 (.inr (.inr rfl))).2.1) ?_ ?_
 .intro i t acc g U P ht hI re;ext;ext;refine QZ (q:=[(36,[])]) hI.1 hI.2.1 hI.2.2.1 (dJ _) λc' aH L' I' HI=> ?_;ext;refine k_rt ?_;exact re [] ⟨c',_,0,0,0,[],_,none,none,none,none,none⟩ aH (by rw[hI.2.2.2.2];exact dJ _) ⟨HI,L',I',by rw[take_snoc ht];exact tS.step (q:=[(36,[])]) hI.2.2.1 hI.2.2.2.1,by rw[hI.2.2.2.2];rfl⟩
 intro acc g1 au bz;obtain⟨ajn,L1,I1,F1,rfl⟩:=bz;have F1:Full g1.H g1.sT:=λt=>F1 t (Fn t);clear L0 I0 HH rX;refine cG (a8 (by simp)) λl2 aH P2 e2 ln2 g2=> ?_;ext;have L2:=L1.pre P2;ext;refine cG (a8 (by simp)) λl3 aQ P3 e3 cO g3=> ?_;ext;have L3:=L2.pre P3;rw[OG (P3 _ _ g2) g3];ext;refine vd pQ ?_;done;done;refine yK L3 (.inl rfl) (row:=row) rfl (by decide) (by lia) (by decide) λi b6 Q2 i6 L4=> ?_;ext;rw[FL ⟨yr (by decide) Q2,k5 (HB (wo i6) 4) (by decide)⟩];ext;refine MU (ys:=f' (4+i).toNat) (f:=λk:Nat=>V.int (k:Int)) (λd (g:LG) U=>g.c.ab .inst=20/\cH g.c g.H U 3 2 35 g.lv g.tl al g.a g.q g.sT Xs (tU row)/\LI d g.H (g.q.map (·.2)) g.sT/\Full g.H g.sT/\0<=g.a/\g.a<=2+4*(d:Int)) (λg=>vw g.t g.w g.pair g.Cq g.turn)
  (g:=⟨g1.c,g1.H,37,38,(1+1:Int),[(36,[])],g1.sT,_,_,_,_,_⟩) ⟨ajn,L4,I1,F1,(show(0:Int)<=1+1 by decide),(show(1+1:Int)<=2+4*((0:Nat):Int) by decide)⟩ (by rw[Ou];exact(Int.toNat_lt (yr (by decide) Q2)).mpr (De (Int.add_lt_add_left i6 4) (by decide))) ?_ ?_
 .intro d d' g U P qY hI re _;obtain⟨cB,e⟩:=b9.mp qY;rw[WR]at e;rw[<-e];rw[Ou]at cB;have tR:d<=8:=yY (jm.mp (show(d:Int)<((9:Nat):Int)from I8 (Int.lt_toNat.mp cB) (show 4+i<=4+5 from HB (Int.le_of_lt_add_one (show i<5+1 from i6)) 4)));have hd:d<=9:=AP tR;clear e qY;obtain⟨iE,L,I,F,h0,h1⟩:=hI;simp only[vw];ext;done;rw[show((d:Int)+2)=((d+2:Nat):Int)from rfl,<-iE];refine aiZ L I F (by exact a9 af eL [.l af ig] rfl hd) tR (.inl rfl) (row:=row) rfl (sl:=19) (.inr (.inl rfl)) rfl ⟨h0,by lia⟩ (by lia) λc2 H2 aH Q3 Q4 a2 q2 sT2 L2 tv aj' I2 Q5=> ?_;rw[iE]at Q5⊢;done;refine yK L2 (.inl rfl) (row:=row) rfl (by lia) (by lia) (by decide) λm aQ m0 m9 L3=> ?_;obtain⟨m,rfl⟩:=Ax m0;have hm:m<9:=jm.mp m9;done;obtain⟨_,rX,_⟩:=L3.x 104 (.inr (.inr rfl));rw[show tU row 104= .list (fZ.map tT)from rfl]at rX;rw[d5 rX,abQ (by rw[aP];exact pB hm)];ext;refine cG (a8 (by rw[J5,aP];exact bx (Gy ..) (by decide))) λl4 b6 P4 e4 o9 g4=> ?_;ext;have L4:=L3.pre P4;ext;rw[d5 (P4 _ _ rX),QX];ext;refine cG (a8 (bx (vj _ _) (by rw[aP];decide))) λl5 dE P5 e5 yS g5=> ?_;ext;have L5:=L4.pre P5;ext;rw[sY (P5 _ _ g4) g5];ext;have gk:=L5.R;rw[<-List.map_drop,<-tC,<-cD,show fZ.drop m++fZ.take m=vP m from rfl];obtain⟨ek,hlen⟩:=ajk ⟨m,hm⟩;refine fm (c:=c2) (a8 (by rw[aP,hlen];decide)) λl6 dF iZ P6 O6 e6 g6=> ?_;ext;have L6:=L5.keep P6 O6 e6 g6;have hX6:¬Xs l6:=λhx=>by have:=(L5.x l6 hx).1.lt;exact Internal.ln2 [.l af ak,.l aK af] rfl e6 this
  clear L2 L3 L4 L5 gk iZ P4 P5 P6 O6 e4 e5 e6 g4 g5 o9 yS rX L I F iE m0 m9;ext;rw[src_list g6];ext;refine nD (ys:=vP m) (f:=tT) (λj (g:LG) U=>g.c.ab .inst=20/\cH g.c g.H U 3 2 35 Q3 Q4 al (a2+1) q2 g.sT (λk=>Xs k\/k=l6) (λk=>if k=l6 then .list ((vP m).map tT)else tU row k)/\LI (d+1) g.H (q2.map (·.2)) g.sT/\tS ((vP m).take j) g.H g.sT) (λg=>vw g.t g.w g.pair g.Cq g.turn)
   (g:=⟨c2,H2,0,0,0,[],sT2,_,_,_,_,_⟩) ⟨Q5,L6,I2,nofun⟩ (by rw[hlen];decide) (λj g U h=>((h.2.1.x l6 (.inr rfl)).2.1).trans (congrArg some (if_pos rfl))) ?_ ?_
  .intro j t0 g U P ht hI re _;simp only[vw];ext;ext;done;refine QZ hI.1 hI.2.1 hI.2.2.1 (by exact a9 az (.num 12) [.l af ig] rfl hd) λc' jA L' I' HI=> ?_;ext;rw[if_neg (by simp)];walk_at "ss";exact re ⟨c',_,0,0,0,[],_,_,_,_,_,_⟩ jA ⟨HI,L',I',by rw[take_snoc ht];exact tS.step hI.2.2.1 hI.2.2.2⟩
  .intro g U hI;have F:=hI.2.2.2;rw[jY]at F;simp only[vw];ext;done;exact re ⟨g.c,g.H,Q3,Q4,a2+1,q2,g.sT,_,_,_,_,_⟩ U ⟨hI.1,hI.2.1.drop hX6,hI.2.2.1,λt=>F t (ek t),(show 0<=a2+1 by lia),(show a2+1<=2+4*((d+1:Nat):Int) by lia)⟩
 .intro g U _;simp only[vw];ext;done;rfl
end
variable{c:Str}{s:ao}
section
def lookup_mem{K:Frag}{o:Obj}(h:K.lookup a=some o):(a,o)∈K:=by
 induction K with
 |nil=>cases h
 |cons p r ih=>
  rw[oj]at h;cases q:a==p.1 with
  |true=>rw[q]at h;rw[beq_iff_eq.mp q,<-bF h];exact .head _
  |false=>rw[q]at h;exact .tail _ (ih h)
def Cr{s:gd}:(JG n0 s).In s.abs.heap:=λa o h=>by
 obtain⟨i,hi,e⟩:=Zb.mp (lookup_mem h);obtain⟨x,hx,e⟩:=gV.mp e;obtain⟨y,hy,jb⟩:=fg.mp hx;obtain⟨rfl,rfl⟩:=gb e;have:=Eh.mp hi;exact(abs_get (by omega) hy).trans jb
variable{sT:gd}{w v:bQ}{os:OsState}{fz:Obj}
abbrev fix(v w:bQ)(sT:gd)(os:OsState)(fz:Obj):Fix:=⟨pw,v,jq w sT,sT.abs.heap,λc=>(uB (gH sT) c).getD 0,λk=>(sq (jq w sT) (gH sT) k).getD 0,os,aY,fz⟩
structure FO(w:bQ)(sT:gd):Prop where
 cls:∀c,dR c aY.classes=true->wF (jq w sT) (gH sT) c=true
 fn:∀k fd,ij k aY.tab=some fd->zR (jq w sT) (gH sT) k=true
 bi:∀n b,gF n=some b->gH sT n=none/\DH sT n=some (ro b)
 con:∀n v,qL n aY.consts=some v->DG (jq w sT) (gH sT) (n,v)=true
 mods:(sT.abs.heap.get? lS).isSome=true
 lim:sT.abs.heap.noLimitOk=true
 g:sT.abs.heap.isNs lY=true
 b:sT.abs.heap.isNs builtinsNs=true
def HJ{n:Str}{l:List Str}(h:dR n l=true):n∈l:=by
 induction l with
 |nil=>cases h
 |cons m r ih=>
  by_cases e:m=n
  .rw[e];exact .head _
  .exact .tail _ (ih ((if_neg e).symm.trans h))
def ajo{n:Str}{v:α}{l:List (Str×α)}(h:qL n l=some v):(n,v)∈l:=by
 induction l with
 |nil=>cases h
 |cons p r ih=>
  by_cases e:p.1=n
  .rw[<-e,<-bF ((if_pos e).symm.trans h)];exact .head _
  .exact .tail _ (ih ((if_neg e).symm.trans h))
def Q6{v:FD}{l:List (FK×FD)}(h:ij k l=some v):(k,v)∈l:=by
 induction l with
 |nil=>cases h
 |cons p r ih=>
  by_cases e:p.1.2=k.2
  .have h:=(if_pos e).symm.trans h;by_cases e1:p.1.1=k.1
   .rw[<-bF ((if_pos e1).symm.trans h),<-show p.1=k from JM e1 e];exact .head _
   .exact .tail _ (ih ((if_neg e1).symm.trans h))
  .exact .tail _ (ih ((if_neg e).symm.trans h))
def ajp{n:Str}{b:BI}{l:List (String×BI)}(h:CC n l=some b):∃x,n=aM x/\(x,b)∈l:=by
 induction l with
 |nil=>cases h
 |cons p r ih=>
  cases e:isName p.1 n with
  |true=>exact⟨p.1,of_decide_eq_true e,bF ((if_pos e).symm.trans h)▸ .head _⟩
  |false=>
   obtain⟨x,h1,h2⟩:=ih ((if_neg (e▸pQ)).symm.trans h);exact⟨x,h1,.tail _ h2⟩
def eR{a b:Bool}(h:(a && b)=true):a=true/\b=true:=lQ.mp h
def FO.of(h:DI w sT=true):FO w sT:=by
 obtain⟨h,h5⟩:=eR h;obtain⟨h,h4⟩:=eR h;obtain⟨h,h3⟩:=eR h;obtain⟨h,h2⟩:=eR h;obtain⟨h,c4⟩:=eR h;obtain⟨h,c3⟩:=eR h;obtain⟨c1,c2⟩:=eR h;exact⟨λc hc=>fE.mp c1 c (HJ hc),λk fd hk=>fE.mp c2 (k,fd) (Q6 hk),λn b hb=>(ajp hb).elim λx h=>(eR (fE.mp c3 (x,b) h.2)).elim λp q=>by rw[h.1];exact⟨X3.mp p,beq_iff_eq.mp q⟩,λn v hv=>fE.mp c4 (n,v) (ajo hv),h2,h3,h4,h5⟩
def refOf_some{v:Option ai}(h:refOf v=some a):v=some (.ref a):=by
 obtain⟨x,hx,h⟩:=fg.mp h;cases x with
 |ref b=>rw[hx,bF h]
 |_=>exact noNS h
def FO.HK(f:FO w sT)(hc:dR c aY.classes=true):uB (gH sT) c=some ((fix v w sT os fz).ca c)/\wF (jq w sT) (gH sT) c=true:=by
 have h:=f.cls c hc;refine⟨?_,h⟩;unfold wF at h;cases e:uB (gH sT) c with
 |none=>rw[e]at h;cases h
 |some a=>exact congrArg some (show a=(uB (gH sT) c).getD 0 by rw[e];rfl)
structure CO(K:Frag)(a:Addr):Prop where
 d:hasDictIn K a=true
 p:plainOver K a=true
 g:findIn K (.ref a) "__getattribute__"=some (some (.builtin "object.__getattribute__"))
 n:findIn K (.ref a) "__getattr__"=some none
 s:findIn K (.ref a) "__setattr__"=some (some (.builtin "object.__setattr__"))
 at_:∀n,dR n aY.attrs=true->findIn K (.ref a) n=some none
 m:makesIn K a=true
 k:keepIn K (.ref a)=true
def FO.co(f:FO w sT)(hc:dR c aY.classes=true):CO (jq w sT) ((fix v w sT os fz).ca c):=by
 obtain⟨e,h⟩:=f.HK (v:=v) (os:=os) (fz:=fz) hc;unfold wF at h;rw[e]at h;obtain⟨h,h7⟩:=eR h;obtain⟨h,h6⟩:=eR h;obtain⟨h,h5⟩:=eR h;obtain⟨h,h4⟩:=eR h;obtain⟨h,h3⟩:=eR h;obtain⟨h1,h2⟩:=eR h;obtain⟨a,b⟩:=eR h3;exact⟨h1,h2,beq_iff_eq.mp a,beq_iff_eq.mp b,beq_iff_eq.mp h4,λn hn=>beq_iff_eq.mp (fE.mp h5 n (HJ hn)),h6,h7⟩
def ok(f:FO w sT):Ok (fix v w sT os fz) where
 KX:=Cr
 lim:=.of_ok f.lim
 mods:=mV.mp f.mods
 CY:=λc hc=>(f.co hc).d
 plain:=λc hc=>(f.co hc).p
 CZ:=λc hc=>(f.co hc).g
 IL:=λc hc=>(f.co hc).n
 IM:=λc hc=>(f.co hc).s
 attr:=λc n hc hn=>(f.co hc).at_ n hn
section
def ajq{K:Frag}{f:FuncData}(h:uA K a=some f):∃c d sl,K.lookup a=some ⟨c,d,.func f,sl⟩:=by
 obtain⟨⟨c,d,x,sl⟩,ho,h⟩:=fg.mp h;cases x with
 |func g=>exact⟨c,d,sl,bF h▸ho⟩
 |_=>exact noNS h
def ajr{K:Frag}(h:zQ K a=some vs):∃d sl n,K.lookup a=some ⟨.type "tuple",d,.seq vs n,sl⟩:=by
 obtain⟨⟨c,d,x,sl⟩,ho,h⟩:=fg.mp h;by_cases hc:JH c "tuple"=true
 .obtain⟨p,hp,e⟩:=gV.mp ((if_pos hc).symm.trans h);cases c with
  |type t=>
   cases x with
   |seq ws n=>exact⟨d,sl,n,by rw[ho,show t="tuple" from of_decide_eq_true hc,<-e,<-bF hp]⟩
   |_=>exact noNS hp
  |_=>exact cu hc
 .exact noNS ((if_neg hc).symm.trans h)
set_option tactic.hygienic true
def ajs{K:Frag}{h:Heap}(X:K.In h)(v:V):∀(u:ai),zS K v u=true->VR (λY=>0) 0 h v u:=by
 refine V.rec (motive_1:=λv=>∀u,zS K v u=true->VR (λY=>0) 0 h v u) (motive_2:=λl=>∀us,zT K l us=true->aJ (λY=>0) 0 h l us) (λY e=>cu e) (λY Y e=>cu e) (λi u e=> ?_) (λx u e=> ?_) (λl ih u e=> ?_) (λY Y e=>cu e) (λY Y e=>cu e) (λus e=> ?_) (λv l ihv ihl us e=> ?_) v
 .cases u with
  |int j t=>exact of_decide_eq_true (show decide (i=j)=true from e)▸ .int _ _
  |_=>exact cu e
 .cases u with
  |str j t=>exact of_decide_eq_true (show decide (x=j)=true from e)▸ .str _ _
  |_=>exact cu e
 .cases u with
  |ref a=>
   replace e:(match zQ K a with|some vs=>zT K l vs.toList|none=>false)=true:=e;cases hq:zQ K a with
   |none=>rw[hq]at e;exact cu e
   |some vs=>
    rw[hq]at e;obtain⟨d,sl,n,ho⟩:=ajr hq;exact .tup (vs:=vs.toList) ⟨_,X _ _ ho,rfl,n,by rw[Array.toArray_toList]⟩ (ih _ e)
  |_=>exact cu e
 .rw[aah.mp e];exact .nil
 .cases us with
  |nil=>cases e
  |cons u us=>exact .cons (ihv u (eR e).1) (ihl us (eR e).2)
end
abbrev ajt(fd:FD):Bool:=fd.scope.kind== .function && !fd.scope.isCoroutine && !fd.scope.isGenerator && fd.params.all (λp=>fd.scope.names.lookup p==some .local||fd.scope.names.lookup p==some .cell) && fd.scope.names.all (λp=>p.2 != .free) && decide (fd.scope.names.map (·.1)).Nodup && pd fd.params.length 5
def stats:aY.tab.all (λp=>ajt p.2)=true:=by decide+kernel
def aju:aY.classes.all (λc=> !c.cps.toList.isEmpty)=true:=by decide+kernel
def HL(f:FO w sT)(h:ij k aY.tab=some fd):sq (jq w sT) (gH sT) k=some ((fix v w sT os fz).fa k):=by
 have h:=f.fn k fd h;unfold zR at h;cases e:sq (jq w sT) (gH sT) k with
 |none=>rw[e]at h;cases h
 |some a=>exact congrArg some (show a=(sq (jq w sT) (gH sT) k).getD 0 by rw[e];rfl)
def ajv{vals:List ai}(h:vals.length=n)(h5:n<=5):∃a b c d e,vals=[a,b,c,d,e].take n:=by
 subst h;rcases vals with _|⟨a,_|⟨b,_|⟨c,_|⟨d,_|⟨e,_|⟨f,r⟩⟩⟩⟩⟩⟩
 .exact⟨.none,.none,.none,.none,.none,rfl⟩
 .exact⟨a,.none,.none,.none,.none,rfl⟩
 .exact⟨a,b,.none,.none,.none,rfl⟩
 .exact⟨a,b,c,.none,.none,rfl⟩
 .exact⟨a,b,c,d,.none,rfl⟩
 .exact⟨a,b,c,d,e,rfl⟩
 .exact absurd h5 (vQ.mpr (wY 6 r.length))
private def ajw(F:Facts s sT w)(f:FO w sT)(h:ij k aY.tab=some fd):JE (fix v w sT os fz) k fd:=by
 have hm:=Q6 h;have a:=HL (v:=v) (os:=os) (fz:=fz) f h;have o:=f.fn k fd h;have z:=fE.mp stats (k,fd) hm;obtain⟨z,z7⟩:=eR z;obtain⟨z,z6⟩:=eR z;obtain⟨z,z5⟩:=eR z;obtain⟨z,z4⟩:=eR z;obtain⟨z,z3⟩:=eR z;obtain⟨z1,z2⟩:=eR z;unfold zR at o;rw[a]at o;obtain⟨o,o3⟩:=eR o;obtain⟨o1,o2⟩:=eR o;obtain⟨fx,v1,v2⟩:=gV.mp (QU.mp F.views (k,fd) hm);unfold wG at v1;rw[a]at v1;obtain⟨oc,od,sl,ho⟩:=ajq (show uA _ _=_ from v1)
 .replace o3:(uA _ _).any _=true:=o3;rw[show uA _ _=_ from v1]at o3;clear v1;generalize fx=fy at*;obtain⟨name,qual,params,body,scope,gl,cl,dV,kV,doc,pm,an,pJ,ct,bi⟩:=fy;obtain⟨e1,v2⟩:=gb v2;obtain⟨e2,v2⟩:=gb v2;obtain⟨e3,v2⟩:=gb v2;obtain⟨e4,e5⟩:=gb v2;dsimp only at e1 e2 e3 e4 e5;subst e1 e2 e3 e4 e5;refine⟨⟨name,qual,params,dV,kV,doc,pm,an,pJ,ct,oc,od,sl,Cr _ _ ho,codeRec_of Cr o3,λvals hl=> ?_⟩,o1,beq_iff_eq.mp o2,beq_iff_eq.mp z1, ?_, ?_, ?_, ?_,of_decide_eq_true z6⟩
  .obtain⟨x1,x2,x3,x4,x5,rfl⟩:=ajv hl (pC z7);have b:=QU.mp (congrFun (congrFun (congrFun (congrFun (congrFun F.binds x1) x2) x3) x4) x5) (k,fd) hm;have e:wG (jq w sT) (gH sT) k=some ⟨name,qual,params,.stmts fd.body,fd.scope,lY,[],dV,kV,doc,pm,an,pJ,ct,builtinsNs⟩:=by
    unfold wG;rw[a];exact fg.mpr ⟨_,rfl,fg.mpr ⟨_,ho,rfl⟩⟩
   rw[e]at b;exact bF b
  .exact uT _|>.mp z2
  .exact uT _|>.mp z3
  .exact λp hp=>((wC _ _).mp (fE.mp z4 p hp)).imp beq_iff_eq.mp beq_iff_eq.mp
  .exact λp hp=>bne_iff_ne.mp (fE.mp z5 p hp)
def names(F:Facts s sT w)(f:FO w sT):mU (fix v w sT os fz) (gH sT) (DH sT) where
 g:=.of_isNs f.g
 b:=.of_isNs f.b
 const:=λn v h=>by
  have h:=f.con n v h;unfold DG at h;split at h
  .rename_i u hu;exact⟨u,hu,ajs Cr _ _ h⟩
  .cases h
 func:=λn fd h=>refOf_some (HL (v:=v) (os:=os) (fz:=fz) f h)
 cls:=λc hc=>⟨refOf_some (f.HK hc).1,(f.co hc).m,(f.co hc).k⟩
 bi:=f.bi
 fn:=λk fd h=>ajw F f h
 DB:=λc n fd hc h=>by
  have a:=HL (v:=v) (os:=os) (fz:=fz) f h;unfold sq at a;have ba:=fE.mp aju c (HJ hc);cases e:c.cps.toList with
  |nil=>rw[e]at ba;cases ba
  |cons x y=>
   rw[e]at a;rw[(f.HK (v:=v) (os:=os) (fz:=fz) hc).1]at a;have a:=refOf_some a;cases q:findIn (jq w sT) (.ref ((fix v w sT os fz).ca c)) n with
   |none=>rw[q]at a;cases a
   |some r=>rw[q]at a;exact q.trans (congrArg some a)
end
variable{d:WData}
section
def has_int(h:ajx R d .int=true):∃i,d= .int i:=by
 cases d<;>first|exact⟨_,rfl⟩|exact cz h
def ajy{xs:List WData}(h:WShape.hasItems R xs .int=true):∃is:List Int,xs=is.map .int:=by
 induction xs with
 |nil=>exact⟨[],rfl⟩
 |cons d r ih=>
  rw[hasItems_all]at h;obtain⟨h1,h2⟩:=eR h;obtain⟨i,rfl⟩:=has_int h1;obtain⟨is,rfl⟩:=ih (by rw[hasItems_all];exact h2);exact⟨i::is,rfl⟩
def has_list(h:ajx R d (.list .int)=true):∃is:List Int,d= .list (is.map .int):=by
 cases d<;>first|exact cz h|(obtain⟨is,e⟩:=ajy ((Bool.or_false _).symm.trans h);exact⟨is,by rw[e]⟩)
abbrev tt(o:Option WData):Option WData:=match o with|some (.bool b)=>some (Q7 !b)|_=>none
abbrev tu(o:Option WData):Option WData:=match o with|some (.bool false)=>some (.bool false)|some (.bool true)=>some (.bool true)|_=>none
variable{is:List Int}
def ajz(h:(ajA uz).holds R {args:=[.list (is.map .int)]}=true):is.length<=63:=by
 refine CP λq=> ?_;have l:less? (.int 63) (.int (is.map Q8).length)=some true:=by show some (decide ((63:Int)<((is.map Q8).length:Int)))=_;rw[aP,decide_eq_true (by omega)]
 have e:(ajA uz).value R {args:=[.list (is.map .int)]}=some (.bool false):=(show _=tu (tt ((less? (.int 63) (.int (is.map Q8).length)).map Q7))from rfl).trans (congrArg (λo=>tu (tt (wH Q7 o))) l);unfold WTm.holds at h;rw[e]at h;cases h
def ajB{args:List WData}(h:row.claim.pre args=true):∃is:List Int,args=[.list (is.map .int)]/\is.length<=63:=by
 obtain⟨h1,h2⟩:=pre_splitW h;obtain⟨d,r,rfl,h3,h4⟩:=hasAllW_cons (show WShape.hasAll _ args [.list .int]=true from h1);rw[hasAllW_nil h4]at h2⊢;obtain⟨is,rfl⟩:=has_list h3;exact⟨is,rfl,ajz h2⟩
def lay_ints{cl:Str->Option Addr}{ord:List dc->List dc}:∀{s s':ao} {us:List ai},layAllW R cl P ord (is.map .int) s=some (us,s')->s'.heap=s.heap/\s'.gens=s.gens/\s'.os=s.os/\∀ρ N h,aJ ρ N h (is.map .int) us:=by
 induction is with
 |nil=>intro s s' us h;cases h;exact⟨rfl,rfl,rfl,λY Y Y=>.nil⟩
 |cons i r ih=>
  intro s s' us h;replace h:(match layAllW R cl P ord (r.map .int) {s with toks:=s.toks+1}with|some q=>some (zK i s.toks::q.1,q.2)|none=>none)=some (us,s'):=h;cases e:layAllW R cl P ord (r.map .int) {s with toks:=s.toks+1}with
  |none=>rw[e]at h;cases h
  |some q=>
   rw[e]at h;obtain⟨h1,h2⟩:=gb (bF h);obtain⟨a,b,c,d⟩:=ih e;exact⟨h2▸a,h2▸b,h2▸c,λρ N h=>h1▸ .cons (.int i _) (d ρ N h)⟩
def ajC{cl:Str->Option Addr}{ord:List dc->List dc}{vals:List ai}(h:layAllW R cl P ord [.list (is.map .int)] s=some (vals,s')):
 ∃us:List ai,vals=[.ref s.heap.objs.size]/\s'.heap=s.heap.push (listOf us.toArray 0)/\s'.gens=s.gens/\s'.os=s.os/\∀ρ N h,aJ ρ N h (is.map .int) us:=by
 replace h:(match(match layAllW R cl P ord (is.map .int) s with
  |some r=>some (Kg r.2.heap.objs.size,{r.2 with heap:=r.2.heap.push {cls:=.type "list",data:=.seq r.1.toArray}})
  |none=>none)with|some q=>some ([q.1],q.2)|none=>none)=some (vals,s'):=h
 cases e:layAllW R cl P ord (is.map .int) s with
 |none=>rw[e]at h;cases h
 |some q=>
  rw[e]at h;obtain⟨us,s2⟩:=q;obtain⟨h1,h2⟩:=gb (bF h);obtain⟨a,b,c,d⟩:=lay_ints e;refine⟨us, ?_, ?_, ?_, ?_,d⟩
  .rw[<-h1];rw[a]
  .rw[<-h2];rw[a]
  .rw[<-h2];exact b
  .rw[<-h2];exact c
private def ajD(is:List Int)(lU:is.length<=63):∃U,(iR aY 500).call (aM "",aM "law") [.ab 0] [.list (is.map .int)]=some (.bool true,U):=by
 have h:=ajm 0 is lU;unfold wp ip at h;split at h
 .rename_i a U e;exact⟨U,by rw[<-h];exact e⟩
 .exact h.elim
def ajE:∃fd,ij (aM "",aM "law") aY.tab=some fd:=mV.mp rfl
def room:cy callerA 500:=⟨rfl,by decide,by decide⟩
def ajF(ds es:List WData):row.claim.post ds (.bool true) es=true:=by kernel_rfl
def call:WalkX q0 pK (XL q0 []) yf (λ_=>True) row ((defOf q0 (aM "law")).get rfl).1 ((defOf q0 (aM "law")).get rfl).2 λf vs=>PySem.call f vs:=by
 intro w fi dO mg mb G Y a o pm cd doc dV kV ho hd hcd hD hmg hg args vals as L ajG aka hrd K9 Ow;obtain⟨w',sT,F⟩:=of_eq_true Y;have f:=FO.of F.ok;obtain⟨is,rfl,lU⟩:=ajB ajG;obtain⟨⟨ord,_,hl⟩,_⟩:=L;obtain⟨us,hv,hh,hgn,lO,uW⟩:=ajC hl;rw[hv];obtain⟨fd,gI⟩:=ajE;have N:=names (v:=w) (os:=dO.os) (fz:=listOf us.toArray 0) F f;have abs:=F.abs;have k:∀b o,fi.heap.get? b=some o->dO.heap.get? b=some o:=λb o e=>by rw[hh];exact cS _ e
 have ha:a=(fix w w' sT dO.os (listOf us.toArray 0)).fa (aM "",aM "law"):=by have h1:=N.func _ fd gI;rw[((Heap.Ns.keeps (show fi.heap.Ns lY (gH sT)from abs▸N.g) k).eq_nsMap),<-G.T.g.eq_nsMap]at h1;have h2:mg (aM "law")=some (.ref a):=hmg;rw[h2]at h1;exact zj (bF h1)
 rw[ha];obtain⟨U,ajH⟩:=ajD is lU;have hn:fi.heap.get? fi.heap.objs.size=none:=by
  cases e:fi.heap.get? fi.heap.objs.size with
  |none=>rfl
  |some ob=>exact absurd (eQ e) (qW _)
 have Q9:dO.heap.get? fi.heap.objs.size=some (listOf us.toArray 0):=by rw[hh];exact dX _ rfl
 have S:ar (fix w w' sT dO.os (listOf us.toArray 0)) ⟨λ_=>fi.heap.objs.size,λ_=>fi.heap.objs.size⟩ [.list (is.map .int)] dO:=by
  refine⟨λb ob e=>k b ob (abs▸e),λl hl=>abs▸hn,λl l' h1 h2 _=> ?_,λl ob e=> ?_,hg,rfl,⟨_,rfl,Q9⟩⟩
  .have:=Ra.mp h1;have:=Ra.mp h2;omega
  .have hl:=Ra.mp (b9.mp e).1;subst hl;cases e;exact⟨rfl,us,0,Q9,uW _ _ _,by rw[aP];exact bx lU (by decide)⟩
 refine wpAny_call ((all (ok (v:=w) (os:=dO.os) (fz:=listOf us.toArray 0) f) N 500).call room S (.cons (.ab ajI) .nil) ajH λaI s' u S' T' x=> ?_);have hu:u= .bool true:=x.out;rw[hu];refine⟨.inl ⟨_,.bool true,[],rfl,λ_=>rfl,.bool true,ajF _ _,λ_=>⟨uf,λ_ h=>nomatch h⟩⟩,.of_keep λb ob e=> ?_,S'.os,.of_eq S'.gens⟩;rw[hh]at e;rcases Heap.get?_push_cases e with⟨rfl,rfl⟩|e
 .obtain⟨_,_,g⟩:=S'.fz;have:=T'.σ 0 ajI;rw[this]at g;exact g
 .exact S'.base b ob (show sT.abs.heap.get? b=some ob from abs▸e)
end
end Internal
theorem PySem.Challenge.cw_qz0023_01_holds : PySem.Challenge.rw_qz0023_01.Holds :=
  Internal.holds Internal.call
