import PyProof.Rows.All
import Wide.All
import OpenK.AllK
import Wide.FinOn
import PySem.Challenge.RW_pq1116_01
set_option maxRecDepth 100000
set_option maxHeartbeats 0
set_option tactic.hygienic false
set_option backward.match.sparseCases false
set_option genInjectivity false
set_option genSizeOf false
set_option genSizeOfSpec false
set_option backward.linearNoConfusionType false
set_option genCtorIdx false
set_option linter.all false
set_option Elab.async false
set_option compiler.extract_closed false
namespace Mine.Internal
open Array renaming length_toList->kX,getElem?_toList->yX,getElem?_eq_getElem->MX,toList_push->M3,toArray_toList->Xd,size_push->Xk,mk->XR,find?_toList->aoj,toList_append->aor,getElem_toList->aot,size_append->aoH,toList_modify->aoJ,any_toList->aoZ
open Bool renaming true->ae,false->aq,casesOn->aS,false_ne_true->dq,noConfusion->iI,false_eq_true->yW,and_eq_true->yY,and_false->y6,not_eq_true'->zi,and_true->Cv,not_eq_true->Cz,or_eq_false_iff->CP,false_and->Ha,or_eq_true->MU,true_and->MW
open Classical renaming propDecidable->nO,em->aou,not_not->apF
open Decidable renaming byContradiction->Yd,em->aoa
open Except renaming casesOn->y8
open ForInStep renaming yield->wH
open Int renaming fmod->bX,fdiv->cU,natCast_nonneg->gg,ofNat->nY,toNat->uF,zero_add->CT,toNat_natCast->G4,lt_trans->MH,natAbs_natCast->NK,le_trans->W4,toNat_of_nonneg->W9,le_of_lt->Xj,natAbs_lt_natAbs_of_nonneg_of_lt->Xr,natCast_pow->X5,le_sub_one_of_lt->aoP,lt_of_le_of_lt->aoR,natCast_ediv->apn,fdiv_eq_ediv_of_nonneg->apo
open Int.ofNat renaming inj->i8
open List renaming length_map->bJ,getElem?_eq_getElem->cT,casesOn->dz,mem_cons_self->dE,mem_cons_of_mem->dT,length_append->d6,getD_eq_getElem?_getD->fy,range->gb,length_take->gf,getElem?_map->gB,append_nil->gC,replicate->gQ,length_range->iL,map_map->iM,map_cons->iN,append_assoc->iO,map_append->jo,mem_of_getElem?->jW,length_cons->jZ,mem_of_mem_take->k8,take_length->lR,nodup_cons->mW,getElem?_append_right->nS,getElem_mem->nW,length->pJ,take_add_one->pO,lookup_cons->pP,take_append_drop->pR,length_set->q8,mem_of_mem_drop->rb,getElem?_append_left->sI,take_of_length_le->sQ,eq_nil_of_length_eq_zero->sR,mem_cons->sS,forIn_cons->wI,set_set->wN,length_drop->yZ,cons_append->zb,mem_map_of_mem->zq,getElem?_eq_none->Co,getElem?_set_ne->Cp,find?_cons->Cw,not_mem_nil->CA,mem_of_find?_eq_some->CF,drop_eq_getElem_cons->CJ,reverse_cons->CQ,set_append_right->CU,take_nil->GJ,drop_nil->GK,mem_singleton->GL,replicate_succ->GW,map_congr_left->GX,nil_append->G1,length_nil->G9,lookup->Hb,mem_append_left->MC,mem_append_right->MD,length_take_le'->MJ,map_take->MM,drop_zero->MQ,flatten_cons->MR,map->MV,nodup_nil->Nr,find?_some->Nt,size_toArray->Nw,getElem?_drop->Nz,getElem?_take->NA,length_reverse->NF,any_cons->W0,map_drop->W7,foldl_cons->Xc,cons_ne_nil->Xn,zip_cons_cons->XB,contains_cons->XF,range_succ->XU,mem_or_eq_of_mem_set->XY,filter_append->XZ,filter_cons->X0,getElem?_concat_length->X7,foldl_append->Yb,filterMap_cons->aof,find?_cons_of_pos->aog,find?_cons_of_neg->aoh,drop_eq_nil_of_le->aon,map_inj_right->aow,getElem?_range->aoS,getElem?_set->aoT,sublist_append_right->ao4,map_fst_zip->ao8,eq_of_mem_replicate->ao9,length_replicate->apq,set_cons_zero->apr,set_getElem_self->aps,find?_append->apx,length_take_le->apH
open List.Sublist renaming map->ME
open Nat renaming le_trans->au,lt_of_le_of_lt->bS,lt_of_lt_of_le->cL,le_add_right->cZ,le_of_eq->dn,le_refl->dR,lt_trans->d7,le_of_lt->eg,zero_add->fQ,sub_le->gR,succ_le_succ->gZ,le_succ->g0,ne_of_lt->ju,lt_of_succ_lt->jv,le_of_not_lt->jV,add_comm->jY,add_le_add_left->kZ,sub_self->k7,le_of_lt_succ->lP,add_assoc->lS,min_eq_left->mR,add_le_add->mX,zero_le->nP,pow_pos->nX,ble->pG,mul_le_mul_right->pU,le_of_ble_eq_true->qT,casesOn->qX,succ_pos->qY,add_right_comm->sF,succ->sJ,lt_irrefl->sL,add_le_add_right->sU,mod_lt->sW,pow_le_pow_right->uG,lt_succ_self->wy,mul_le_mul_left->wz,mod_eq_of_lt->wF,add_lt_add_left->wO,le_add_left->wQ,and_two_pow_sub_one_eq_mod->wR,div_le_div_right->wU,dvd_of_mod_eq_zero->yV,min_le_right->y5,ne_of_gt->zg,lt_of_not_le->zk,mul_comm->zl,one_mul->zm,le_succ_of_le->zp,not_lt_zero->Cu,add_sub_cancel'->CK,not_le_of_lt->CL,add_sub_cancel_left->CM,pow_mul->CS,mul_add_div->GC,lt_succ_of_le->GD,add_mod_right->GF,succ_mul->GG,lt_add_of_pos_right->G3,div_eq_of_lt->Hg,pos_of_ne_zero->Hh,div_le_self->Hi,min_le_left->Hj,min_eq_right->MA,min_self->ML,lt_of_succ_lt_succ->MS,lt_succ_of_lt->MZ,add_right_cancel->M4,sub_add_comm->Nq,succ_add_eq_add_succ->Ny,mod_two_eq_zero_or_one->NL,div_mul_le_self->NM,testBit_eq_decide_div_mod_eq->NN,or_lt_two_pow->NO,sub_add_cancel->NP,zero_mul->NQ,le_of_succ_le_succ->NR,add_sub_of_le->NS,succ_lt_succ->WR,add_div_right->WS,le_total->W6,le_antisymm->Xu,le_of_succ_le->Xx,add_zero->XC,sub_sub_self->XD,div_one->XT,mul_mod_right->XW,mul_mod_left->XX,testBit_and->X1,lt_of_le_of_ne->X4,mul_div_cancel_left->X6,mod_add_div->X8,div_pos->X9,sub_le_of_le_add->Yc,dvd_add->Ye,dvd_refl->Yg,div_lt_of_lt_mul->aob,add_sub_add_right->aoV,lt_of_lt_of_eq->aoX,add_lt_add_right->apm,eq_of_testBit_eq->apu,zero_testBit->apv,testBit_lt_two_pow->apw,testBit_mul_two_pow->apy,add_mul_mod_self_left->apz,exists_eq_add_of_le->apA,div_mul_cancel->apB,dvd_add_left->apC,dvd_mul_right->apD,not_lt_of_le->apE
open Nat.succ renaming inj->uE
open Ne renaming symm->nQ
open Option renaming some->aa,none->ag,casesOn->aO,none->qU,bind_some->wM,toList_some->zc,map->zf,or_none->ao5
open Option.some renaming inj->bf
open Or renaming elim->bZ
open PUnit renaming unit->qZ
open Prod renaming fst->Hf,ext->NH,snd->XQ
open Pure renaming pure->nN
open PyProof.Rows renaming tail_any->qW,IntsAre->wD,neg_int->aoB
open PySem renaming Value->ar,Shared->az,Addr->aH,wpAny_bind->aI,Expr->bj,wpAny_pure->bE,Around->bL,wpAny_of_eq->cV,Scope->d5,World->eh,Heap->eM,wpAny_mono->fh,Program->fO,DictEntry->fP,Env->gA,Result->gP,Stmt->iv,wpAny_holding->jn,typeLookup_type->jq,builtinLookup_eq_fast->jr,wpAny_specialOf->jt,wpAny_field->jX,standAt->lQ,Model->mS,Flow->nR,Arguments->nT,findBy->pI,wpAny_rule->pN,OsState->ra,wpAny_newObj_type->sH,wpAny_load->sM,strKind_is->sP,Slot->uB,isSubtype_type->uC,call->wA,intKind_is->wB,IsPart->wC,wpAny_call_entry->wG,bm_if_false->y9,Thread->zj,holding->Cn,entryFor_of_tree->Cq,wpAny_isInstance->Cy,wpAny_setField->CC,wpAny_execs_nil->CD,setAttr->CG,sizeLine_eq->CI,wpAny_point->GH,wpAny_Name->GQ,wpAny_loadName_local->GR,wpAny_truthy_bool->GU,signature?_of->GV,NameKind->G5,wpAny_release->G6,wpAny_loadPart->G7,arm_exec_Assign->G8,wpAny_loadPart_at->Hc,wpAny_newList->MF,clipAt_nat->MK,sliceBounds_plain->MN,sliceRange_one->MO,wpAny_callSpecial?_slot->M5,wpAny_bindName->M7,wpAny_storeName_local->M8,comprehension->M9,arm_assign_Name->Np,wpAny_mkText->Nv,eval_Constant->WX,wpAny_mkInt->W2,typeIs_int->W3,getItem_meets->W5,wpAny_typeOf->Xa,evalPart_none_step->Xb,plainId_quiet->Xf,wpAny_lookBehind->Xh,wpAny_sequenceKey->Xi,pairTrees_length->Xl,wpAny_alloc->Xm,wpAny_dictEntries->Xo,wpAny_attempt->Xp,wpAny_pyIter_dict->Xs,lookup_relabel_local->Xv,wpAny_askSetting->Xw,codeAny_call_builtin->XH,wpAny_call->XJ,wpAny_isSubtype_exc->XM,markedBehindIn_of_false->aoc,wpAny_updateDictKeys->aoK,compStart->aoU,wpAny_pyIter_listiter->aoW,arm_assign_Subscript->aoY,aRefKeyMayBeTheName_at->ao0,arm_assign_Attribute->ao2,wpAny_unpackItems_tuple->ao3,wpAny_newFunctionEnv_cells->apa,wpAt_bind->apb,wpAt_of_wpAny->apc,leftWithCleanup_false_of_bare->aph
open PySem.Around renaming under_of_weight->wJ,in1_units->MT,under_plainId->Xg
open PySem.Builtin renaming bitAnd->GN,bitOr->GO,bitXor->MB,bitNot->NJ
open PySem.Builtin.Bytes renaming fitsIndex->MG,payload->W1,subscript?->aoi,sliced->aoo,ownRelease->aoD,slotIsOwn->aoE,buffer?->aoG
open PySem.Builtin.Int renaming intBits->Ct,intTooBig->aoq
open PySem.Builtin.Range renaming rangePlace?->aox,rangeSize->aoO,small->aoQ
open PySem.Calls renaming spliced_nil->GP,Name_function_global->GS,Constant_str->WY,loadGlobal_global->WZ
open PySem.Code renaming quiet_builtin->Xe
open PySem.Data renaming casesOn->Xz
open PySem.Expr renaming casesOn->iJ,Call->ao7
open PySem.F renaming excBase_Exception->ND,slot_int_rmul->aos,slot_range_contains->aoy,entry_range_contains->aoz,args_range_contains_2->aoA,slot_dict_get->aoL
open PySem.Flow renaming casesOn->GY
open PySem.Heap renaming ExtBut->dp,get?_push_of_some->eT,lt_size->i7,get?_push_size->mT,get?_update_self->pK,size_push->za,SameBut->zd,get?_update_other->Nx,get?_none_of_le->XE
open PySem.Heap.SameBut renaming update->pM
open PySem.NameKind renaming free->sV,cell->NB
open PySem.Obj renaming mapFields->pQ,data_mapFields->ze,isFreed_of_dict->M0,data_mapDict->M1,data_mapDictKeys->M2,casesOn->WW,isFreed_of_fields->Xq,mapBytearray->aoF,cls_mapFields->aoN
open PySem.PyData renaming keyHash->wK
open PySem.Sem renaming wp_mono->sG,wp_bind'->WT,wp_holding->WU,wp_operate->WV,wp_cmd_standAt->aod
open PySem.Str renaming ofString->GZ,ofString->aoM
open PySem.Value renaming ref->kY,isInt->mU,isStrOf->sO,none->uD,casesOn->wL,type->y7,builtin->He,isInt_shape->aoI
open PySem.Value.ref renaming inj->pH
open PySem.W renaming Frag->fg,Looks->iu,SharedT->nU,boot_heap->pS,getL->qV,putL->q9,putN->zh,typeIs_bytes->Cr,looks_clsIn->CH,looks_findIn->CN,WData->CR,typeIs_bytes->MY,putName_dict->Nu,WellAll->NG,looks_mroIn->XG,check_slot->XI,boot_drawn->XO,putL->ao1,frees->api
open PySem.W.FB renaming slot_bytes_getitem->aok,entry_bytes_getitem->aol,args_bytes_getitem_2->aom
open PySem.W.Looks renaming ld->CB,of_pure->NC,here->Xy
open PySem.W.WData renaming list->NI,layableAll->XN,weightAll->XS
open UInt8 renaming toNat->GI
@[elab_as_elim] theorem rwl.{u}{α:Sort u}{p:α->Prop}{a b:α}(h:a=b)(x:p b):p a:=h▸x
@[elab_as_elim] theorem rws.{u}{α:Sort u}{p:α->Prop}{a b:α}(h:a=b)(x:p a):p b:=h▸x
theorem aw.{u,v}{α:Sort u}{β:Sort v}{a b:α}(f:α->β)(h:a=b):f a=f b:=congrArg f h
theorem aB.{u}{c:Prop}{h:Decidable c}(a:¬c){α:Sort u}{t e:α}:ite c t e=e:=if_neg a
theorem aC.{u}{c:Prop}{h:Decidable c}(hc:c){α:Sort u}{t e:α}:ite c t e=t:=if_pos hc
theorem bO.{u}{α:Type u}[BEq α][LawfulBEq α]{a b:α}:a==b<->a=b:=beq_iff_eq
noncomputable def aT.{v}{a:Prop}{b:Sort v}(bQ:a)(c:¬a):b:=absurd bQ c
section
universe u0 u1 u2 u3 u4
variable{gL:Sort u0}{iF:Sort u1}{oU:Sort u2}{FT:Sort u3}{α4:Sort u4}{G:Prop}
section
variable{p0 p1 p2 p3 p4 p5 p6 p7:Prop}
theorem aW(h:p0/\p1)(k:p0->p1->G):G:=k h.1 h.2
theorem fW(h:p0/\p1/\p2)(k:p0->p1->p2->G):G:=k h.1 h.2.1 h.2.2
theorem mB(h:p0/\p1/\p2/\p3)(k:p0->p1->p2->p3->G):G:=k h.1 h.2.1 h.2.2.1 h.2.2.2
theorem yC(h:p0/\p1/\p2/\p3/\p4)(k:p0->p1->p2->p3->p4->G):G:=k h.1 h.2.1 h.2.2.1 h.2.2.2.1 h.2.2.2.2
theorem VF(h:p0/\p1/\p2/\p3/\p4/\p5)(k:p0->p1->p2->p3->p4->p5->G):G:=k h.1 h.2.1 h.2.2.1 h.2.2.2.1 h.2.2.2.2.1 h.2.2.2.2.2
theorem K6(h:p0/\p1/\p2/\p3/\p4/\p5/\p6)(k:p0->p1->p2->p3->p4->p5->p6->G):G:=k h.1 h.2.1 h.2.2.1 h.2.2.2.1 h.2.2.2.2.1 h.2.2.2.2.2.1 h.2.2.2.2.2.2
theorem VG(h:p0/\p1/\p2/\p3/\p4/\p5/\p6/\p7)(k:p0->p1->p2->p3->p4->p5->p6->p7->G):G:=k h.1 h.2.1 h.2.2.1 h.2.2.2.1 h.2.2.2.2.1 h.2.2.2.2.2.1 h.2.2.2.2.2.2.1 h.2.2.2.2.2.2.2
theorem cv(a:p0)(h1:p1)(h2:p2):p0/\p1/\p2:=⟨a,h1,h2⟩
theorem lG(a:p0)(h1:p1)(h2:p2)(b:p3):p0/\p1/\p2/\p3:=⟨a,h1,h2,b⟩
theorem vJ(a:p0)(h1:p1)(h2:p2)(b:p3)(h4:p4):p0/\p1/\p2/\p3/\p4:=⟨a,h1,h2,b,h4⟩
end
section
variable{p0 p1 p2 p3 p4:gL->Prop}
theorem bu(h:∃a,p0 a)(k:∀a,p0 a->G):G:=h.elim λa h=>k a h
theorem bo(h:∃a,p0 a/\p1 a)(k:∀a,p0 a->p1 a->G):G:=h.elim λa h=>k a h.1 h.2
theorem cA(h:∃a,p0 a/\p1 a/\p2 a)(k:∀a,p0 a->p1 a->p2 a->G):G:=h.elim λa h=>k a h.1 h.2.1 h.2.2
theorem uh(h:∃a,p0 a/\p1 a/\p2 a/\p3 a)(k:∀a,p0 a->p1 a->p2 a->p3 a->G):G:=h.elim λa h=>k a h.1 h.2.1 h.2.2.1 h.2.2.2
theorem e15(h:∃a,p0 a/\p1 a/\p2 a/\p3 a/\p4 a)(k:∀a,p0 a->p1 a->p2 a->p3 a->p4 a->G):G:=h.elim λa h=>k a h.1 h.2.1 h.2.2.1 h.2.2.2.1 h.2.2.2.2
theorem i12(a:gL)(b:p0 a)(h1:p1 a):∃a,p0 a/\p1 a:=⟨a,b,h1⟩
theorem cu(a:gL)(b:p0 a)(h1:p1 a)(h2:p2 a):∃a,p0 a/\p1 a/\p2 a:=⟨a,b,h1,h2⟩
theorem vK(a:gL)(b:p0 a)(h1:p1 a)(h2:p2 a)(c:p3 a):∃a,p0 a/\p1 a/\p2 a/\p3 a:=⟨a,b,h1,h2,c⟩
end
section
variable{p0 p1 p2 p3 p4 p5 p6:gL->iF->Prop}
theorem iX(h:∃a b,p0 a b)(k:∀a b,p0 a b->G):G:=h.elim λa h=>h.elim λb h=>k a b h
theorem fw(h:∃a b,p0 a b/\p1 a b)(k:∀a b,p0 a b->p1 a b->G):G:=h.elim λa h=>h.elim λb h=>k a b h.1 h.2
theorem cP(h:∃a b,p0 a b/\p1 a b/\p2 a b)(k:∀a b,p0 a b->p1 a b->p2 a b->G):G:=h.elim λa h=>h.elim λb h=>k a b h.1 h.2.1 h.2.2
theorem gx(h:∃a b,p0 a b/\p1 a b/\p2 a b/\p3 a b)(k:∀a b,p0 a b->p1 a b->p2 a b->p3 a b->G):G:=h.elim λa h=>h.elim λb h=>k a b h.1 h.2.1 h.2.2.1 h.2.2.2
theorem K7(h:∃a b,p0 a b/\p1 a b/\p2 a b/\p3 a b/\p4 a b)(k:∀a b,p0 a b->p1 a b->p2 a b->p3 a b->p4 a b->G):G:=h.elim λa h=>h.elim λb h=>k a b h.1 h.2.1 h.2.2.1 h.2.2.2.1 h.2.2.2.2
theorem e26(h:∃a b,p0 a b/\p1 a b/\p2 a b/\p3 a b/\p4 a b/\p5 a b)(k:∀a b,p0 a b->p1 a b->p2 a b->p3 a b->p4 a b->p5 a b->G):G:=h.elim λa h=>h.elim λb h=>k a b h.1 h.2.1 h.2.2.1 h.2.2.2.1 h.2.2.2.2.1 h.2.2.2.2.2
theorem e27(h:∃a b,p0 a b/\p1 a b/\p2 a b/\p3 a b/\p4 a b/\p5 a b/\p6 a b)(k:∀a b,p0 a b->p1 a b->p2 a b->p3 a b->p4 a b->p5 a b->p6 a b->G):G:=h.elim λa h=>h.elim λb h=>k a b h.1 h.2.1 h.2.2.1 h.2.2.2.1 h.2.2.2.2.1 h.2.2.2.2.2.1 h.2.2.2.2.2.2
theorem gM(a:gL)(b:iF)(c:p0 a b):∃a b,p0 a b:=⟨a,b,c⟩
theorem fX(a:gL)(b:iF)(c:p0 a b)(h1:p1 a b)(h2:p2 a b):∃a b,p0 a b/\p1 a b/\p2 a b:=⟨a,b,c,h1,h2⟩
theorem jP(a:gL)(b:iF)(c:p0 a b)(h1:p1 a b)(h2:p2 a b)(d:p3 a b):∃a b,p0 a b/\p1 a b/\p2 a b/\p3 a b:=⟨a,b,c,h1,h2,d⟩
theorem iY(a:gL)(b:iF)(c:p0 a b)(h1:p1 a b):∃a b,p0 a b/\p1 a b:=⟨a,b,c,h1⟩
theorem yD(a:gL)(b:iF)(c:p0 a b)(h1:p1 a b)(h2:p2 a b)(d:p3 a b)(h4:p4 a b)(e:p5 a b):∃a b,p0 a b/\p1 a b/\p2 a b/\p3 a b/\p4 a b/\p5 a b:=⟨a,b,c,h1,h2,d,h4,e⟩
theorem i25(a:gL)(b:iF)(c:p0 a b)(h1:p1 a b)(h2:p2 a b)(d:p3 a b)(h4:p4 a b):∃a b,p0 a b/\p1 a b/\p2 a b/\p3 a b/\p4 a b:=⟨a,b,c,h1,h2,d,h4⟩
end
section
variable{p0 p1 p2 p3 p4 p5:gL->iF->oU->Prop}
theorem VH(h:∃a b c,p0 a b c)(k:∀a b c,p0 a b c->G):G:=h.elim λa h=>h.elim λb h=>h.elim λc h=>k a b c h
theorem vL(h:∃a b c,p0 a b c/\p1 a b c)(k:∀a b c,p0 a b c->p1 a b c->G):G:=h.elim λa h=>h.elim λb h=>h.elim λc h=>k a b c h.1 h.2
theorem nE(h:∃a b c,p0 a b c/\p1 a b c/\p2 a b c)(k:∀a b c,p0 a b c->p1 a b c->p2 a b c->G):G:=h.elim λa h=>h.elim λb h=>h.elim λc h=>k a b c h.1 h.2.1 h.2.2
theorem jQ(h:∃a b c,p0 a b c/\p1 a b c/\p2 a b c/\p3 a b c)(k:∀a b c,p0 a b c->p1 a b c->p2 a b c->p3 a b c->G):G:=h.elim λa h=>h.elim λb h=>h.elim λc h=>k a b c h.1 h.2.1 h.2.2.1 h.2.2.2
theorem K8(h:∃a b c,p0 a b c/\p1 a b c/\p2 a b c/\p3 a b c/\p4 a b c)(k:∀a b c,p0 a b c->p1 a b c->p2 a b c->p3 a b c->p4 a b c->G):G:=h.elim λa h=>h.elim λb h=>h.elim λc h=>k a b c h.1 h.2.1 h.2.2.1 h.2.2.2.1 h.2.2.2.2
theorem e36(h:∃a b c,p0 a b c/\p1 a b c/\p2 a b c/\p3 a b c/\p4 a b c/\p5 a b c)(k:∀a b c,p0 a b c->p1 a b c->p2 a b c->p3 a b c->p4 a b c->p5 a b c->G):G:=h.elim λa h=>h.elim λb h=>h.elim λc h=>k a b c h.1 h.2.1 h.2.2.1 h.2.2.2.1 h.2.2.2.2.1 h.2.2.2.2.2
theorem ee(a:gL)(b:iF)(c:oU)(d:p0 a b c)(h1:p1 a b c)(h2:p2 a b c)(e:p3 a b c):∃a b c,p0 a b c/\p1 a b c/\p2 a b c/\p3 a b c:=⟨a,b,c,d,h1,h2,e⟩
theorem sd(a:gL)(b:iF)(c:oU)(d:p0 a b c)(h1:p1 a b c)(h2:p2 a b c)(e:p3 a b c)(h4:p4 a b c):∃a b c,p0 a b c/\p1 a b c/\p2 a b c/\p3 a b c/\p4 a b c:=⟨a,b,c,d,h1,h2,e,h4⟩
theorem i31(a:gL)(b:iF)(c:oU)(d:p0 a b c):∃a b c,p0 a b c:=⟨a,b,c,d⟩
theorem BP(a:gL)(b:iF)(c:oU)(d:p0 a b c)(h1:p1 a b c)(h2:p2 a b c):∃a b c,p0 a b c/\p1 a b c/\p2 a b c:=⟨a,b,c,d,h1,h2⟩
theorem K9(a:gL)(b:iF)(c:oU)(d:p0 a b c)(h1:p1 a b c):∃a b c,p0 a b c/\p1 a b c:=⟨a,b,c,d,h1⟩
theorem Lv(a:gL)(b:iF)(c:oU)(d:p0 a b c)(h1:p1 a b c)(h2:p2 a b c)(e:p3 a b c)(h4:p4 a b c)(f:p5 a b c):∃a b c,p0 a b c/\p1 a b c/\p2 a b c/\p3 a b c/\p4 a b c/\p5 a b c:=⟨a,b,c,d,h1,h2,e,h4,f⟩
end
section
variable{p0 p1 p2 p3 p4 p5:gL->iF->oU->FT->Prop}
theorem VI(h:∃a b c d,p0 a b c d/\p1 a b c d)(k:∀a b c d,p0 a b c d->p1 a b c d->G):G:=h.elim λa h=>h.elim λb h=>h.elim λc h=>h.elim λd h=>k a b c d h.1 h.2
theorem ui(h:∃a b c d,p0 a b c d/\p1 a b c d/\p2 a b c d)(k:∀a b c d,p0 a b c d->p1 a b c d->p2 a b c d->G):G:=h.elim λa h=>h.elim λb h=>h.elim λc h=>h.elim λd h=>k a b c d h.1 h.2.1 h.2.2
theorem Lw(h:∃a b c d,p0 a b c d/\p1 a b c d/\p2 a b c d/\p3 a b c d)(k:∀a b c d,p0 a b c d->p1 a b c d->p2 a b c d->p3 a b c d->G):G:=h.elim λa h=>h.elim λb h=>h.elim λc h=>h.elim λd h=>k a b c d h.1 h.2.1 h.2.2.1 h.2.2.2
theorem VJ(h:∃a b c d,p0 a b c d/\p1 a b c d/\p2 a b c d/\p3 a b c d/\p4 a b c d)(k:∀a b c d,p0 a b c d->p1 a b c d->p2 a b c d->p3 a b c d->p4 a b c d->G):G:=h.elim λa h=>h.elim λb h=>h.elim λc h=>h.elim λd h=>k a b c d h.1 h.2.1 h.2.2.1 h.2.2.2.1 h.2.2.2.2
theorem iG(h:∃a b c d,p0 a b c d/\p1 a b c d/\p2 a b c d/\p3 a b c d/\p4 a b c d/\p5 a b c d)(k:∀a b c d,p0 a b c d->p1 a b c d->p2 a b c d->p3 a b c d->p4 a b c d->p5 a b c d->G):G:=h.elim λa h=>h.elim λb h=>h.elim λc h=>h.elim λd h=>k a b c d h.1 h.2.1 h.2.2.1 h.2.2.2.1 h.2.2.2.2.1 h.2.2.2.2.2
theorem qD(a:gL)(b:iF)(c:oU)(d:FT)(e:p0 a b c d)(h1:p1 a b c d)(h2:p2 a b c d)(f:p3 a b c d)(h4:p4 a b c d)(g:p5 a b c d):∃a b c d,p0 a b c d/\p1 a b c d/\p2 a b c d/\p3 a b c d/\p4 a b c d/\p5 a b c d:=⟨a,b,c,d,e,h1,h2,f,h4,g⟩
theorem BQ(a:gL)(b:iF)(c:oU)(d:FT)(e:p0 a b c d)(h1:p1 a b c d)(h2:p2 a b c d):∃a b c d,p0 a b c d/\p1 a b c d/\p2 a b c d:=⟨a,b,c,d,e,h1,h2⟩
end
section
variable{p0 p1:gL->iF->oU->FT->α4->Prop}
theorem e52(h:∃a b c d e,p0 a b c d e/\p1 a b c d e)(k:∀a b c d e,p0 a b c d e->p1 a b c d e->G):G:=h.elim λa h=>h.elim λb h=>h.elim λc h=>h.elim λd h=>h.elim λe h=>k a b c d e h.1 h.2
end
end
theorem gl{P:Prop}(h:∀G:Prop,(P->G)->G):P:=h P id
section
universe u v
variable{α:Type u}{β:Type v}{G:Prop}
theorem ej{f:α->β}{o:Option α}{b:β}(h:o.map f=aa b)(k:∀a,o=aa a->f a=b->G):G:=bo (Option.map_eq_some_iff.mp h) k
theorem lZ{f:α->Option β}{o:Option α}{b:β}(h:o.bind f=aa b)(k:∀a,o=aa a->f a=aa b->G):G:=bo (Option.bind_eq_some_iff.mp h) k
theorem j8{f:α->β}{l:List α}{b:β}(h:b∈l.map f)(k:∀a,a∈l->f a=b->G):G:=bo (List.mem_map.mp h) k
theorem mh{a b:Bool}(h:(a&&b)=ae)(k:a=ae->b=ae->G):G:=aW (Bool.and_eq_true_iff.mp h) k
theorem rN{a c:α}{b d:β}(h:(a,b)=(c,d))(k:a=c->b=d->G):G:=aW (Prod.mk.inj h) k
theorem Bo{o:Option α}(h:o.isSome=ae)(k:∀a,o=aa a->G):G:=bu (Option.isSome_iff_exists.mp h) k
end
section
variable{α:Type}{a:α}{l:List α}{G:Prop}
theorem bk(h:ag=aa a):G:=nomatch h
theorem iZ(h:aa a=ag):G:=nomatch h
theorem dG(h:aq=ae):G:=nomatch h
theorem ia(h:ae=aq):G:=nomatch h
theorem no5(h:[]=a::l):G:=nomatch h
theorem dl{a b:Nat}(h:ae=pG a b):a<=b:=qT h.symm
theorem dt{a b:Nat}(h:ae=pG (a+1) b):a<b:=qT h.symm
theorem dc{p:Prop}[Decidable p](h:ae=decide p):p:=of_decide_eq_true h.symm
theorem BR(h:a::l=[]):G:=nomatch h
end
local macro_rules
  | `(tactic| rewrite [$r, $rs,*]) => `(tactic| (rewrite [$r]; rewrite [$rs,*]))
  | `(tactic| rewrite [$t:term]) => `(tactic| first | refine no_implicit_lambda% (Mine.Internal.rwl $t ?_) | fail)
  | `(tactic| rewrite [<- $t:term]) => `(tactic| first | refine no_implicit_lambda% (Mine.Internal.rws $t ?_) | fail)
set_option bootstrap.genMatcherCode false
noncomputable section
section
theorem l9{a b:Nat}(h:b<=a):((a:Int)-(b:Int))=((a-b:Nat):Int):=(Int.ofNat_sub h).symm
theorem ak2(b l:Nat):(if (b:Int)<l then(l:Int) else b)=((max b l:Nat):Int):=
 (aoa<|b<l).elim (λh=>(aC<|Int.ofNat_lt.mpr h).trans<|aw _ (Nat.max_eq_right<|eg h).symm)
  λh=>(aB<|mt Int.ofNat_lt.mp h).trans<|aw _ (Nat.max_eq_left<|jV h).symm
theorem ak3(e h:Nat):(if (h:Int)<e then(h:Int) else e)=((min e h:Nat):Int):=
 (aoa<|h<e).elim (λc=>(aC<|Int.ofNat_lt.mpr c).trans<|aw _ (MA<|eg c).symm)
  λc=>(aB<|mt Int.ofNat_lt.mp c).trans<|aw _ (mR<|jV c).symm
theorem Ak(h:n%2=0):2*(n/2)=n:=Nat.mul_div_cancel'<|yV h
theorem IY(h:n%2=0):(n+1)/2=n/2:=(aw (λx=>(x+1)/2) (Ak h).symm).trans<|GC (dl rfl) _ 1
theorem half_lt(h:n%2=0)(hi:i<(n+1)/2):2*i+1<n:=by replace hi:=(IY h)▸hi;exact cL (wy _)<|au (wz 2 hi)<|dn<|Ak h
theorem afj(h:x<=2*i):(x+1)/2<=i:=lP<|aob<|WR<|GD h
theorem UD{α:Type}{P:List α->Prop}(c:P [])(h1:∀a,P [a])(h2:∀a b r,P r->P (a::b::r))(l):P l:=
 (l.rec (motive:=λl=>P l/\∀a,P (a::l)) ⟨c,h1⟩ λb r B=>⟨B.2 b,λa=>h2 a b r B.1⟩).1
theorem ak4{P:Nat->Prop}(a:P 0)(h1:P 1)(h2:∀n,P n->P (n+2))(n:Nat):P n:=
 (n.rec (motive:=λn=>P n/\P (n+1)) ⟨a,h1⟩ λn B=>⟨B.2,h2 n B.1⟩).1
theorem ak5(n):n+n%2=(n+1)/2*2:=ak4 (P:=λn=>n+n%2=(n+1)/2*2) rfl rfl (λn B=>(aw (n+2+·)<|GF n 2).trans ((sF n 2 _).trans ((aw (·+2) B).trans ((GG _ 2).symm.trans (aw (·*2) (WS (n+1)<|dl rfl).symm))))) n
theorem JK{a:Nat}(h:0<a):(a:Int)-1=((a-1:Nat):Int):=l9 h
theorem SA{k i:Nat}(h:i<k):(k:Int)-1-i=((k-1-i:Nat):Int):=(aw (·-(i:Int))<|l9<|Nat.zero_lt_of_lt h).trans<|l9<|Nat.le_pred_of_lt h
end
section
open PySem PySem.Calls PySem.W PyProof.Rows
open Sem (wp)
noncomputable def qE:Code->Bool|.builtin id _=>["type.__call__","bytearray.__init__","bytearray.__setitem__","claim.caller"].contains id|_=>ae
noncomputable def Lx(Γ:Ctx):Prop:=∀x∈Γ.below,qE x.1=ae
noncomputable def Ly(Γ:Ctx):Prop:=qE Γ.code=ae/\Lx Γ
noncomputable def aD{α:Type}(M:mS)(A:bL)(t:Sem α)(Q:α->az->Prop)(E:ar->az->Prop)(s:az):Prop:=
 ∀Γ p,Γ.In A->Ly Γ->wp M Γ t (λa Z B=>Q a B) (λe Z B=>E e B) p s
noncomputable def cM(M:mS)(A:bL)(c:Code)(R:gP->az->Prop)(s:az):Prop:=
 ∀Γ p,Γ.code=c->Γ.Below A->Lx Γ->wpCode M Γ R p s
namespace P
section
variable{α β:Type}{M:mS}{A:bL}{E:ar->az->Prop}{s:az}{env:gA}
theorem of(h:wpAny M A t Q E s):aD M A t Q E s:=λΓ p B Z=>h Γ p B
theorem code(h:codeAny M A c R s):cM M A c R s:=λΓ p B E Z=>h Γ p B E
theorem pure(h:Q a s):aD M A (nN a) Q E s:=λZ Z Z Z=>h
theorem mono(h:aD M A t Q E s)
  (hQ:∀a s,Q a s->b a s)(hE:∀e s,E e s->c e s):aD M A t b c s:=
 λΓ p B g=>sG M Γ t (λa Z s=>hQ a s) (λe Z s=>hE e s) p s<|h Γ p B g
theorem bind(h:aD M A m (λa b=>aD M A (f a) Q E b) E s):
  aD M A (m>>=f) Q E s:=λΓ p J g=>by
 rw[WT ..];exact sG M Γ m (λa O b B=>B Γ O J g) (λZ Z Z B=>B) p s<|h Γ p J g
theorem bz(h:wpAny M A m (λa b=>aD M A (f a) Q E b) E s):aD M A (m>>=f) Q E s:=bind<|of h
theorem onRaise
  (h:aD M A m Q (λe a=>aD M A (k e) (λZ b=>E e b) E a) s):aD M A (m.onRaise k) Q E s:=λΓ p J g=>by
 rw[Sem.wp_onRaise ..];exact sG M Γ m (λZ Z Z B=>B) (λe O a B=>B Γ O J g) p s<|h Γ p J g
theorem attempt{Q:Except ar α->az->Prop}(h:aD M A m (λa=>Q<|.ok a) (λe=>Q<|.error e) s):
  aD M A m.attempt Q E s:=λΓ p B g=>by rw[Sem.wp_attempt ..];exact h Γ p B g
theorem holding(h:aD M A m Q E s):aD M A (Cn vs m) Q E s:=
 λΓ p B g=>by rw[WU ..];exact h Γ p B g
theorem standAt(h:Q () s):aD M A (lQ pos) Q E s:=λZ Z Z Z=>h
theorem operating(h:aD M A m Q E s):aD M A (operate vs m) Q E s:=λΓ p B g=>by rw[WV ..];exact h Γ p B g
theorem qa(h:cM M A c R s)(hR:∀r s,R r s->a r s):cM M A c a s:=
 λΓ p B E g=>wpCode_mono hR<|h Γ p B E g
theorem enter(g:Ly Γ)(c:Code)(h)(p):Lx (Γ.enter c h p):=λx hx=>by
 rcases sS.mp hx with rfl|hx
 ·exact g.1
 ·exact g.2 x hx
theorem run
  (hc:cM M (A.mark h) c (λr a=>match r with|.ok f=>Q f a|.error e=>E e a) s)(b:h≠aa byPass:=by intro x;cases x):
  aD M A (PySem.run c h) Q E s:=
 λΓ p B g=>by rw[Sem.wp_run ..];exact hc _ p rfl (B.enter c h p b)<|enter g c h p
set_option backward.match.sparseCases true in
theorem runValue
  (hc:cM M A c (λr a=>match r with|.ok (.ret v)=>Q v a|.ok _=>False|.error e=>E e a) s):
  aD M A (PySem.runValue c) Q E s:=λΓ p B g=>by rw[Sem.wp_runValue ..];exact hc _ p rfl (B.enter c ag p (by intro x;exact bk x))<|enter g c ag p
set_option backward.match.sparseCases true in
theorem call
  (hc:cM M A (.call f ⟨pos,b⟩) (λr a=>match r with|.ok (.ret v)=>Q v a|.ok _=>False|.error e=>E e a) s):
  aD M A (wA f pos b) Q E s:=runValue hc
theorem ll(hk:qE c=ae)
  (h:aD M (A.under c) (M.den c) (λfin a=>match fin with|.done f=>R (.ok f) a|.again c'=>c'.quiet=ae/\cM M A c' R a)
   (λe a=>R (.error e) a) s):cM M A c R s:=λΓ p E J g=>by
 rw[wpCode_iff_wp,E];refine sG M Γ _ (λfin O a B=>?_) (λZ Z Z B=>B) p s (h Γ p (E▸J.in) ⟨rwl E hk,g⟩);induction fin using PySem.Fin.casesOn with|done f=>exact B|again c'=>exact⟨B.1,B.2 (Γ.goto c') O rfl (J.goto c') g⟩
theorem List_
  (h:aD M A (spliced<|backTo pos<|starEach elts env) (λvs a=>aD M A (newList vs) Q E a) E s):aD M A (eval (.List elts pos) env) Q E s:=by
 refine(?_:aD M A (do lQ pos;newList (<-spliced (backTo pos<|starEach elts env))) Q E s);exact bind<|standAt<|bind h
theorem Tuple_
  (h:aD M A (spliced<|backTo pos<|starEach elts env) (λvs a=>aD M A (newTuple vs) Q E a) E s):aD M A (eval (.Tuple elts k pos) env) Q E s:=by
 refine(?_:aD M A (do lQ pos;newTuple (<-spliced (backTo pos<|starEach elts env))) Q E s);exact bind<|standAt<|bind h
theorem UnaryOp_{a x pos}(h:aD M A (eval x env) (λv b=>aD M A (unaryOp a v) Q E b) E s):
  aD M A (eval (.UnaryOp a x pos) env) Q E s:=by
 rw[arm_eval_UnaryOp ..];exact bind (mono h (λv b B=>bind<|standAt<|holding B) λZ Z x=>x)
theorem IfExp_{test body orelse pos}
  (h:aD M A (isTrue test env<|eval test env) (λc a=>if c then aD M A (eval body env) Q E a else aD M A (eval orelse env) Q E a) E s):
  aD M A (eval (.IfExp test body orelse pos) env) Q E s:=by
 rw[arm_eval_IfExp ..];refine bind (mono h (λc a B=>?_) λZ Z x=>x);induction c using aS<;>exact B
theorem Subscript_{value slice pos}
  (h:aD M A (eval value env) (λo a=>aD M A (eval slice env) (λi b=>aD M A (subscriptTail value slice o i) Q E b) E a) E s):
  aD M A (eval (.Subscript value slice pos) env) Q E s:=by
 rw[arm_eval_Subscript ..];exact bind (mono h (λo a B=>bind (holding (mono B (λi b J=>bind<|standAt J) λZ Z x=>x))) λZ Z x=>x)
theorem SD{lower upper step:Option bj}
  (h:aD M A (evalPart lower env) (λl b=>aD M A (evalPart upper env) (λu c=>aD M A (evalPart step env) (λst a=>Q (.ref a.heap.objs.size) {a with heap:=a.heap.push {cls:=.type "slice",data:=.fields #[l,u,st]}}) E c) E b) E s):
  aD M A (eval (.Slice lower upper step p) env) Q E s:=by
 rw[arm_eval_Slice ..];exact bind (mono h (λl b B=>bind (holding (mono B (λu c J=>bind (holding (mono J (λst a O=>of<|sH O) λZ Z x=>x))) λZ Z x=>x))) λZ Z x=>x)
theorem aiv{l c r pos}
  (h:aD M A (eval l env) (λa d=>aD M A (eval r env) (λb e=>aD M A (binaryOp c a b) Q E e) E d) E s):
  aD M A (eval (.BinOp l c r pos) env) Q E s:=by
 rw[arm_eval_BinOp ..];exact bind (mono h (λa d B=>bind (holding (mono B (λb e J=>bind<|standAt<|operating J) λZ Z x=>x))) λZ Z x=>x)
theorem ac1{l c r pos}
  (h:aD M A (eval l env) (λa d=>aD M A (eval r env) (λb e=>aD M A (compareOp c a b) Q E e) E d) E s)
  (hm:behindInMarks c r=aq):aD M A (eval (.Compare l [c] [r] pos) env) Q E s:=λΓ p B g=>by
 simp only[eval_Compare1,aoc hm,WT,WU,aod,WV];exact sG M Γ _ (λa O d bQ=>sG M Γ _ (λb Z e P=>P Γ _ B g) (λZ Z Z J=>J) _ _<|bQ Γ O B g)
  (λZ Z Z J=>J) _ _ (h Γ p B g)
theorem Z0{l d r pos whole}
  (h:aD M A (eval l env) (λa e=>aD M A (eval r env) (λb f=>aD M A (compareOp d a b)
   (λc i=>aD M A (truthy c) Q E i) E f) E e) E s)
  (hm:behindInMarks d r=aq):aD M A (isTrue (.Compare l [d] [r] pos) env whole) Q E s:=λΓ p J g=>by
 simp only[isTrue_Compare1,aoc hm,WT,WU,aod,WV];exact sG M Γ _ (λa P e bQ=>sG M Γ _ (λb Z f R=>sG M Γ _ (λc O i S=>S Γ O J g)
  (λZ Z Z B=>B) _ _ (R Γ _ J g)) (λZ Z Z B=>B) _ _<|bQ Γ P J g) (λZ Z Z B=>B) _ _<|h Γ p J g
set_option backward.match.sparseCases true in
theorem BoolOp_and{a b rest pos}
  (h:aD M A (eval a env) (λv e=>aD M A (truthy v) (λc d=>if c then aD M A (eval (.BoolOp .And (b::rest) pos) env) Q E d else Q v d) E e) E s):
  aD M A (eval (.BoolOp .And (a::b::rest) pos) env) Q E s:=by
 refine(?_:aD M A (do
  let v<-eval a env
  lQ pos
  let c<-Cn [v] (truthy v)
  match BoolOp.And,c with|.And,aq|.Or,ae=>nN v|_,_=>boolOp pos .And (eval b env::evalEach rest env)) Q E s)
 refine bind (mono h (λv e J=>bind (standAt (bind (holding (mono J (λc d B=>?_) λZ Z x=>x))))) λZ Z x=>x);induction c using aS with|false=>exact pure B|true=>exact B
set_option backward.match.sparseCases true in
theorem BoolOp_or{a b rest pos}
  (h:aD M A (eval a env) (λv e=>aD M A (truthy v) (λc d=>if c then Q v d else aD M A (eval (.BoolOp .Or (b::rest) pos) env) Q E d) E e) E s):
  aD M A (eval (.BoolOp .Or (a::b::rest) pos) env) Q E s:=by
 refine(?_:aD M A (do
  let v<-eval a env
  lQ pos
  let c<-Cn [v] (truthy v)
  match BoolOp.Or,c with|.And,aq|.Or,ae=>nN v|_,_=>boolOp pos .Or (eval b env::evalEach rest env)) Q E s)
 refine bind (mono h (λv e J=>bind (standAt (bind (holding (mono J (λc d B=>?_) λZ Z x=>x))))) λZ Z x=>x);induction c using aS with|false=>exact B|true=>exact pure B
theorem isTrue_not{x pos whole}(h:aD M A (isTrue x env<|eval x env) (λc a=>Q (!c) a) E s):
  aD M A (isTrue (.UnaryOp .Not x pos) env whole) Q E s:=by
 exact bind (mono h (λc a B=>pure B) λZ Z x=>x)
theorem isTrue_plain(h:aD M A whole (λv a=>aD M A (truthy v) Q E a) E s)
  (he:isTrue e env whole=(do let v<-whole;lQ e.pos;Cn [v] (truthy v))):aD M A (isTrue e env whole) Q E s:=by
 rw[he];exact bind (mono h (λv a B=>bind<|standAt<|holding B) λZ Z x=>x)
theorem spliced_cons
  (h:aD M A x (λv a=>aD M A (spliced rest) (λvs b=>Q (v::vs) b) E a) E s):aD M A (spliced ((aq,x)::rest)) Q E s:=by
 rw[spliced];refine bind (mono h (λv a B=>?_) λZ Z x=>x);simp only[yW,if_false];exact bind (pure (bind (holding (mono B (λvs b J=>pure J) λZ Z x=>x))))
theorem evalArgs_plain
  (h:aD M A (spliced ((aq,x)::rest)) (λvs a=>Q ⟨vs,[]⟩ a) E s):aD M A (evalArgs f ae ((aq,x)::rest) []) Q E s:=by
 exact bind (mono h (λvs a B=>holding<|bind<|pure<|bind<|pure<|pure B) λZ Z x=>x)
theorem am4.{u}{α:Sort u}{p:α->Prop}{a b:α}(h:p a)(k:p b):p (@ite α c d a b):=by induction d using Decidable.casesOn with|isTrue=>exact h|isFalse=>exact k
theorem callWith_of{K:fg}{pos:Pos}{P:eM->Prop}{Q:ar->az->Prop}(c:args.any (·.1)=aq)
  (hk:∀h,P h->∃k,(k=Keeper.frame\/k=Keeper.machine\/k=Keeper.boundFrame)/\iu M h (keeperOf f) k)
  (h:aD M A (evalArgs f ae args []) (λa b=>P b.heap/\aD M A (wA f (first++a.pos) a.kw) Q E b) E s):aD M A (callWith pos f first args []) Q E s:=by
 refine bind (holding (mono h (λa b B=>bind (standAt (bo (hk _ B.1) λk J L=>?_))) λZ Z x=>x));have O:(args.any (·.1)||([]:List (Option Str×Sem ar)).any (·.1.isNone))=aq:=by rw[c];rfl
 rw[O];refine bz<|L.here ?_;have tail:∀{t:Sem ar},aD M A t Q E b->aD M A (t>>=λr=>Cn [r] point>>=λZ=>nN r) Q E b:=
  λR=>bind (mono R (λr V S=>bz<|jn<|GH<|pure S) λZ Z x=>x)
 have marked (mk:ar):aD M A (callMarked mk f (first++a.pos) a.kw) Q E b:=by exact λΓ p T g=>by rw[Sem.wp_keep ..];exact B.2 Γ p T g
 rcases J with rfl|rfl|rfl<;>dsimp only<;>first|exact tail B.2|exact am4 (p:=λt=>aD M A t Q E b) (tail B.2) (tail<|marked _)
theorem OP
  (h:aD (model prog w) A (eval value env) (λo a=>aD (model prog w) A (getAttr o attr ae) Q E a) E s)
  (he:eval (.Attribute value attr pos) env=(do
   let o<-eval value env
   lQ pos.atName
   let r<-Cn [o] (getAttr o attr ae)
   letTemporaryGo value o r
   nN r)):
  aD (model prog w) A (eval (.Attribute value attr pos) env) Q E s:=by
 rw[he];exact bind (mono h (λo a B=>bind (standAt (bind (holding (mono B (λr M J=>bz<|wpAny_letTemporaryGo<|pure J) λZ Z x=>x))))) λZ Z x=>x)
theorem Call_Name{id:Str}
  (h:aD M A (eval (.Name id p) env) (λf a=>aD M A (callWith pos f [] (backTo pos<|starEach args env) []) Q E a) E s):
  aD M A (eval (.Call (.Name id p) args [] pos) env) Q E s:=by
 exact bind h
end
end P
end
section
open PySem PySem.Calls PySem.W
section
noncomputable abbrev Nm:=List Nat
noncomputable def Nm.toStr(x:Nm):Str:=⟨x.toArray⟩
noncomputable def aF(x:Str):Nm:=x.cps.toList
theorem Hx(x):aF (Nm.toStr x)=x:=by simp[aF,Nm.toStr]
theorem rk(x):Nm.toStr (aF x)=x:=by induction x using PySem.Str.casesOn;simp[aF,Nm.toStr]
theorem j1(h:aF x=aF y):x=y:=by rw[<-rk x,h,rk ..]
set_option genInjectivity true in
inductive V where|none|bool(b:Bool)|int(i:Int)|str(x:Nm)|bb(b:List Nat)|tup(l:List V)|lst(l:List V)|aA(l:List (Nm×V))|bar(b:List Nat)|dW(a b c:Int)|ref(i:Nat)|inst(c:Nm)(i:Nat)|fn(x:Nm)
noncomputable def V.ctorIdx(t:V):Nat:=V.casesOn t 0 (λZ=>1) (λZ=>2) (λZ=>3) (λZ=>4) (λZ=>5) (λZ=>6) (λZ=>7) (λZ=>8) (λZ Z Z=>9) (λZ=>10) (λZ Z=>11) λZ=>12
noncomputable abbrev lk:=List aH
noncomputable abbrev mV:=List V
noncomputable abbrev z0:=List Nat
noncomputable abbrev Ar:=ar->az->Prop
noncomputable abbrev La:=Option V
noncomputable abbrev Lb:=List (Nm×V)
noncomputable abbrev Ld:=List ar
inductive O where|lst(l:List V)|aA(l:List (Nm×V))|bW(l:List (Int×V))|bar(b:List Nat)
noncomputable def O.ctorIdx(t:O):Nat:=O.casesOn t (λZ=>0) (λZ=>1) (λZ=>2) λZ=>3
noncomputable abbrev J:=List O
noncomputable abbrev Fz:=aH->Option Obj
structure Cx where
 prog:fO
 w:eh
 mg:Str->Option ar
 mb:Str->Option ar
 K:fg
noncomputable abbrev Cx.md(C:Cx):mS:=model C.prog C.w
noncomputable def cq(b:Array UInt8):z0:=b.toList.map GI
mutual
inductive Rl(C:Cx)(F:Fz)(ι:List aH):ar->V->Prop where|none:Rl C F ι .none .none|bool(b:Bool):Rl C F ι (.bool b) (.bool b)|int(i:Int)(t:Tok):Rl C F ι (.int i t) (.int i)|str(x:Str)(t:Tok):Rl C F ι (.str x t) (.str<|aF x)|bb(b:Array UInt8)(t:Tok):Rl C F ι (.bytes b t) (.bb<|cq b)|tup{a:aH}{o:Obj}{vs:Array ar}{n:Nat}{ds:List V}(hF:F a=aa o)(hc:o.cls=.type "tuple")(hd:o.data=.seq vs n)(he:o.dict=ag/\o.slots=#[])(hr:aU C F ι vs.toList ds):Rl C F ι (.ref a) (.tup ds)|lst{a:aH}{o:Obj}{vs:Array ar}{n:Nat}{ds:List V}(hF:F a=aa o)(hc:o.cls=.type "list")(hd:o.data=.seq vs n)(he:o.dict=ag/\o.slots=#[])(hr:aU C F ι vs.toList ds):Rl C F ι (.ref a) (.lst ds)|aA{a:aH}{o:Obj}{es:Array fP}{n:Nat}{ds:List (Nm×V)}(hF:F a=aa o)(hc:o.ExactDict)(hd:o.data=.dict es n)(hr:cn C F ι es.toList ds)(hs:(a==sysModules)=aq):Rl C F ι (.ref a) (.aA ds)|bar{a:aH}{o:Obj}{b:Array UInt8}(hF:F a=aa o)(hc:o.cls=.type "bytearray")(hd:o.data=.bytearray b 0):Rl C F ι (.ref a) (.bar<|cq b)|dW{a:aH}{i j k:Int}{t u v:Tok}(hF:F a=aa {cls:=.type "range",data:=.fields #[.int i t,.int j u,.int k v]}):Rl C F ι (.ref a) (.dW i j k)|ref{a:aH}{i:Nat}(h:ι[i]?=aa a):Rl C F ι (.ref a) (.ref i)|inst{a c d:aH}{x:Str}{i:Nat}(hm:C.mg x=aa (.ref c))(hF:F a=aa (instObj c d))(h:ι[i]?=aa d):Rl C F ι (.ref a) (.inst (aF x) i)|fn{x:Str}{a:aH}(h:C.mg x=aa (.ref a))(hk:keepIn C.K (.ref a)=ae):Rl C F ι (.ref a) (.fn<|aF x)
inductive aU(C:Cx)(F:Fz)(ι:List aH):List ar->List V->Prop where|nil:aU C F ι [] []|cons{v:ar}{d:V}{vs:List ar}{ds:List V}(h:Rl C F ι v d)(r:aU C F ι vs ds):aU C F ι (v::vs) (d::ds)
inductive cn(C:Cx)(F:Fz)(ι:List aH):List fP->List (Nm×V)->Prop where|nil:cn C F ι [] []|cons{e:fP}{x:Str}{t:Tok}{d:V}{es:List fP}{ds:List (Nm×V)}(hk:e.key=.str x t)(hh:e.hash=hashStr C.w x)(h:Rl C F ι e.val d)(r:cn C F ι es ds):cn C F ι (e::es) ((aF x,d)::ds)
end
inductive eB(C:Cx)(F:Fz)(ι:List aH):List fP->List (Int×V)->Prop where|nil:eB C F ι [] []|cons{e:fP}{i:Int}{t:Tok}{d:V}{es:List fP}{ds:List (Int×V)}(hk:e.key=.int i t)(hh:e.hash=hashInt i)(h:Rl C F ι e.val d)(r:eB C F ι es ds):eB C F ι (e::es) ((i,d)::ds)
inductive di(C:Cx)(F:Fz)(ι:List aH):Obj->O->Prop where|lst{o:Obj}{vs:Array ar}{n:Nat}{l:List V}(hc:o.cls=.type "list")(hd:o.data=.seq vs n)(he:o.dict=ag/\o.slots=#[])(hr:aU C F ι vs.toList l):di C F ι o (.lst l)|aA{o:Obj}{es:Array fP}{l:List (Nm×V)}(hc:o.ExactDict)(hd:o.data=.dict es es.size)(hr:cn C F ι es.toList l):di C F ι o (.aA l)|bW{o:Obj}{es:Array fP}{l:List (Int×V)}(hc:o.ExactDict)(hd:o.data=.dict es es.size)(hr:eB C F ι es.toList l):di C F ι o (.bW l)|bar{o:Obj}{b:Array UInt8}(hc:o.cls=.type "bytearray")(hd:o.data=.bytearray b 0):di C F ι o (.bar<|cq b)
noncomputable def BS(C:Cx)(F:Fz)(ι:lk)(v:ar)(d:V):Prop:=match d with|.none=>v=.none|.bool b=>v=.bool b|.int i=>∃t,v=.int i t|.str x=>∃y t,v=.str y t/\aF y=x|.bb x=>∃y t,v=.bytes y t/\cq y=x|.tup B=>∃a o E n,v=.ref a/\F a=aa o/\o.cls=.type "tuple"/\o.data=.seq E n/\(o.dict=ag/\o.slots=#[])/\aU C F ι E.toList B|.lst B=>∃a o E n,v=.ref a/\F a=aa o/\o.cls=.type "list"/\o.data=.seq E n/\(o.dict=ag/\o.slots=#[])/\aU C F ι E.toList B|.aA B=>∃a o J n,v=.ref a/\F a=aa o/\o.ExactDict/\o.data=.dict J n/\cn C F ι J.toList B/\(a==sysModules)=aq|.bar l=>∃a o b,v=.ref a/\F a=aa o/\o.cls=.type "bytearray"/\o.data=.bytearray b 0/\l=cq b|.dW i j k=>∃a t u w,v=.ref a/\F a=aa {cls:=.type "range",data:=.fields #[.int i t,.int j u,.int k w]}|.ref i=>∃a,v=.ref a/\ι[i]?=aa a|.inst c i=>∃a M d x,v=.ref a/\aF x=c/\C.mg x=aa (.ref M)/\F a=aa (instObj M d)/\ι[i]?=aa d|.fn y=>∃x a,v=.ref a/\aF x=y/\C.mg x=aa (.ref a)/\keepIn C.K (.ref a)=ae
theorem Rl.inv(r:Rl C F ι v d):BS C F ι v d:=by cases r with|none=>rfl|bool b=>rfl|int i t=>exact⟨t,rfl⟩|str x t=>exact iY x t rfl rfl|bb b t=>exact iY b t rfl rfl|tup B E J M h=>exact qD _ _ _ _ rfl B E J M h|lst B E J M h=>exact qD _ _ _ _ rfl B E J M h|aA B E J O P=>exact qD _ _ _ _ rfl B E J O P|bar B E J=>exact sd _ _ _ rfl B E J rfl|dW h=>exact⟨_,_,_,_,rfl,h⟩|ref h=>exact i12 _ rfl h|inst B E J=>exact⟨_,_,_,_,rfl,rfl,B,E,J⟩|fn h R=>exact jP _ _ rfl rfl h R
noncomputable def am5(C:Cx)(F:Fz)(ι:lk)(ob:Obj)(o:O):Prop:=match o with|.lst l=>∃E n,ob.cls=.type "list"/\ob.data=.seq E n/\(ob.dict=ag/\ob.slots=#[])/\aU C F ι E.toList l|.aA l=>∃B:Array fP,ob.ExactDict/\ob.data=.dict B B.size/\cn C F ι B.toList l|.bW l=>∃B:Array fP,ob.ExactDict/\ob.data=.dict B B.size/\eB C F ι B.toList l|.bar l=>∃b,ob.cls=.type "bytearray"/\ob.data=.bytearray b 0/\l=cq b
theorem di.inv(r:di C F ι ob o):am5 C F ι ob o:=by cases r with|lst B E J h=>exact jP _ _ B E J h|aA B E h=>exact cu _ B E h|bW B E h=>exact cu _ B E h|bar B E=>exact cu _ B E rfl
noncomputable def Le(F b:Fz):Prop:=∀a o,F a=aa o->b a=aa o
theorem Le.refl(F):Le F F:=λZ Z h=>h
theorem Le.trans(a:Le F G)(b:Le G c):Le F c:=λx o h=>b x o<|a x o h
noncomputable def Pre(ι b:lk):Prop:=∀(i:Nat)(a),ι[i]?=aa a->b[i]?=aa a
theorem Pre.refl(ι:lk):Pre ι ι:=λZ Z h=>h
theorem Pre.trans(a:Pre x y)(b:Pre y z):Pre x z:=λi c h=>b i c<|a i c h
theorem Pre.append(ι e:lk):Pre ι (ι++e):=λi a h=>by refine bu (List.getElem?_eq_some_iff.mp h) λB Z=>?_;rw[sI B];exact h
section
variable{C:Cx}{F F':Fz}{ι av:lk}
theorem Rl.mono(hF:Le F F')(dK:Pre ι av){v d}(r:Rl C F ι v d):Rl C F' av v d:=
 Rl.rec (motive_1:=λv d Z=>Rl C F' av v d) (motive_2:=λv d Z=>aU C F' av v d) (motive_3:=λv d Z=>cn C F' av v d)
  .none .bool .int .str .bb (λB E J M Z r=>.tup (hF _ _ B) E J M r) (λB E J M Z r=>.lst (hF _ _ B) E J M r) (λB E J Z O r=>.aA (hF _ _ B) E J r O)
  (λB=>.bar<|hF _ _ B) (λB=>.dW<|hF _ _ B) (λh=>.ref<|dK _ _ h) (λB E J=>.inst B (hF _ _ E)<|dK _ _ J) .fn
  .nil (λZ Z h r=>.cons h r) .nil (λB E Z Z h r=>.cons B E h r) r
theorem aU.ind{P:Ld->mV->Prop}(nil:P [] [])(cons:∀v d vs ds,Rl C F ι v d->aU C F ι vs ds->P vs ds->P (v::vs) (d::ds)){vs ds}(r:aU C F ι vs ds):P vs ds:=
 aU.rec (motive_1:=λZ Z Z=>True) (motive_2:=λv d Z=>P v d) (motive_3:=λZ Z Z=>True)
  ⟨⟩ (λZ=>⟨⟩) (λZ Z=>⟨⟩) (λZ Z=>⟨⟩) (λZ Z=>⟨⟩) (λZ Z Z Z Z Z=>⟨⟩) (λZ Z Z Z Z Z=>⟨⟩) (λZ Z Z Z Z Z=>⟨⟩) (λZ Z Z=>⟨⟩) (λZ=>⟨⟩) (λZ=>⟨⟩) (λZ Z Z=>⟨⟩) (λZ Z=>⟨⟩)
  nil (λh r Z y=>cons _ _ _ _ h r y) ⟨⟩ (λZ Z Z Z Z Z=>⟨⟩) r
theorem cn.ind{P:List fP->Lb->Prop}(nil:P [] [])(cons:∀e x t d es ds,e.key=.str x t->e.hash=hashStr C.w x->Rl C F ι e.val d->cn C F ι es ds->P es ds->P (e::es) ((aF x,d)::ds)){es ds}(r:cn C F ι es ds):P es ds:=
 cn.rec (motive_1:=λZ Z Z=>True) (motive_2:=λZ Z Z=>True) (motive_3:=λv d Z=>P v d)
  ⟨⟩ (λZ=>⟨⟩) (λZ Z=>⟨⟩) (λZ Z=>⟨⟩) (λZ Z=>⟨⟩) (λZ Z Z Z Z Z=>⟨⟩) (λZ Z Z Z Z Z=>⟨⟩) (λZ Z Z Z Z Z=>⟨⟩) (λZ Z Z=>⟨⟩) (λZ=>⟨⟩) (λZ=>⟨⟩) (λZ Z Z=>⟨⟩) (λZ Z=>⟨⟩)
  ⟨⟩ (λZ Z Z Z=>⟨⟩) nil (λB E h r Z y=>cons _ _ _ _ _ _ B E h r y) r
theorem aU.mono(hF:Le F F')(dK:Pre ι av){v d}(r:aU C F ι v d):aU C F' av v d:=
 r.ind .nil λZ Z Z Z h Z y=>.cons (h.mono hF dK) y
theorem cn.mono(hF:Le F F')(dK:Pre ι av){v d}(r:cn C F ι v d):cn C F' av v d:=
 r.ind .nil λZ Z Z Z Z Z B E h Z y=>.cons B E (h.mono hF dK) y
theorem eB.mono(hF:Le F F')(dK:Pre ι av){v d}(x:eB C F ι v d):eB C F' av v d:=by induction x with|nil=>exact .nil|cons B E h _ J=>exact .cons B E (h.mono hF dK) J
theorem di.mono(hF:Le F F')(dK:Pre ι av){o d}(x:di C F ι o d):di C F' av o d:=
 x.rec (motive:=λd Z=>di C F' av o d) (λB E J h=>.lst B E J<|h.mono hF dK) (λB E h=>.aA B E<|h.mono hF dK) (λB E h=>.bW B E<|h.mono hF dK) λB E=>.bar B E
theorem di.ac2{o d}(x:di C F ι o d):o.isFreed=aq:=by
 (induction o using WW with|_ c B dt E)
 cases x<;>simp_all<;>subst_vars<;>rfl
theorem aU.length{vs ds}(r:aU C F ι vs ds):vs.length=ds.length:=r.ind (P:=λvs ds=>vs.length=ds.length) rfl λZ Z Z Z Z Z y=>aw sJ y
theorem aU.get{vs:Ld}(r:aU C F ι vs ds):∀{i:Nat}{d},ds[i]?=aa d->∃v,vs[i]?=aa v/\Rl C F ι v d:=
 r.ind (P:=λvs ds=>∀{i}{d},ds[i]?=aa d->∃v,vs[i]?=aa v/\Rl C F ι v d) (λh=>bk h) λv d Z Z h Z y {i}=>match i with|0=>λe=>i12 v rfl (rws (bf e) h)|_+1=>y
theorem aU.append{vs ds a es}(x:aU C F ι vs ds)(y:aU C F ι a es):aU C F ι (vs++a) (ds++es):=
 x.ind (P:=λvs ds=>aU C F ι (vs++a)<|ds++es) y λZ Z Z Z h Z=>.cons h
theorem aU.set{vs:Ld}(r:aU C F ι vs ds)(i:Nat)(x:Rl C F ι v d):aU C F ι (vs.set i v) (ds.set i d):=
 r.ind (P:=λvs ds=>∀i,aU C F ι (vs.set i v)<|ds.set i d) (λZ=>.nil) (λZ Z Z Z h r y i=>match i with|0=>.cons x r|_+1=>.cons h<|y _) i
theorem aU.take{vs:Ld}(r:aU C F ι vs ds)(i):aU C F ι (vs.take i) (ds.take i):=
 r.ind (P:=λvs ds=>∀i,aU C F ι (vs.take i)<|ds.take i) (λi=>by rw[GJ,GJ];exact .nil) (λZ Z Z Z h Z y i=>match i with|0=>.nil|_+1=>.cons h<|y _) i
theorem aU.drop{vs:Ld}(r:aU C F ι vs ds)(i):aU C F ι (vs.drop i) (ds.drop i):=
 r.ind (P:=λvs ds=>∀i,aU C F ι (vs.drop i)<|ds.drop i) (λi=>by rw[GK,GK];exact .nil) (λZ Z Z Z h r y i=>match i with|0=>.cons h r|_+1=>y _) i
end
structure St(C:Cx)(bc:az)(cN:Fz)(cy:List aH)(F:Fz)(ι:List aH)(m:J)(s:az):Prop where
 same:∃h tk,s={bc with heap:=h,toks:=tk}
 fz:∀a o,F a=aa o->s.heap.get? a=aa o
 f0:Le cN F
 fn:∀a o,F a=aa o->cN a=aa o\/bc.heap.get? a=ag
 kp:∀a o,bc.heap.get? a=aa o->a∉cy->s.heap.get? a=aa o
 i0:Pre cy ι
 gY:∀a∈ι,a∈cy\/bc.heap.get? a=ag
 len:ι.length=m.length
 st:∀(i:Nat)(a:aH)(o:O),ι[i]?=aa a->m[i]?=aa o->∃ob,s.heap.get? a=aa ob/\di C F ι ob o
 fr:∀a∈ι,F a=ag
 nd:∀(i j:Nat)(a:aH),ι[i]?=aa a->ι[j]?=aa a->i=j
 ns:∀a∈ι,(a==sysModules)=aq
structure Pv(bc:az)(F:Fz)(ι:List aH)(a:aH):Prop where
 new:bc.heap.get? a=ag
 fr:F a=ag
 ni:a∉ι
section
variable{C:Cx}{bc s s':az}{cN F F':Fz}{cy ι av:lk}{m m':J}
theorem DL(h:a∈ι){G:Prop}(kk:∀i:Nat,ι[i]?=aa a->G):G:=bu (List.mem_iff_getElem?.mp h) kk
theorem get_mem{i:Nat}(h:ι[i]?=aa a):a∈ι:=jW h
theorem St.there(S:St C bc cN cy F ι m s)(h:a∈ι):∃ob,s.heap.get? a=aa ob:=by refine DL h λi B=>bu (List.getElem?_eq_some_iff.mp B) λE Z=>?_;have J:=S.len;refine bo (S.st i a (m[i]'(rws J E)) B<|cT _) λob M Z=>?_;exact⟨ob,M⟩
theorem St.refl(h1:∀a o,F a=aa o->s.heap.get? a=aa o)(hl:ι.length=m.length)(cY:∀(i:Nat)(a:aH)(o:O),ι[i]?=aa a->m[i]?=aa o->∃ob,s.heap.get? a=aa ob/\di C F ι ob o)
  (je:∀a∈ι,F a=ag)(b:∀(i j:Nat)(a:aH),ι[i]?=aa a->ι[j]?=aa a->i=j)(c:∀a∈ι,(a==sysModules)=aq):St C s F ι F ι m s:=
 ⟨gM _ _ rfl,h1,.refl F,λZ Z h=>.inl h,λZ Z h Z=>h,.refl ι,λZ h=>.inl h,hl,cY,je,b,c⟩
theorem St.start(S:St C bc cN cy F ι m s):St C s F ι F ι m s:=.refl S.fz S.len S.st S.fr S.nd S.ns
theorem St.rI(S:St C bc cN cy F ι m s)(h:s.heap.get? a=ag):bc.heap.get? a=ag:=by
 induction q:bc.heap.get? a using aO with|none=>rfl|some o=>
  exfalso;by_cases B:a∈cy
  ·refine gl λM J=>?_;refine DL B λi B=>?_;refine bu (S.there<|get_mem<|S.i0 _ _ B) λO E=>?_;refine J ?_;rw[h] at E;exact bk E
  ·have:=S.kp a o q B;rw[h] at this;exact bk this
theorem St.trans(S:St C bc cN cy F ι m s)(T:St C s F ι c d b f):St C bc cN cy c d b f:=by
 refine⟨?_,T.fz,S.f0.trans T.f0,λa o h=>?_,λa o h E=>?_,S.i0.trans T.i0,λa h=>?_,T.len,T.st,T.fr,T.nd,T.ns⟩
 ·refine gl λR J=>?_;refine iX S.same λh V e=>?_;refine iX T.same λB M O=>?_;refine J ?_;exact gM B M (by rw[O,e])
 ·refine bZ (T.fn a o h) (λh=>?_) λh=>?_
  ·exact S.fn a o h
  ·exact .inr<|S.rI h
 ·refine T.kp a o (S.kp a o h E) λP=>bZ (S.gY a P) (λB=>?_) λB=>?_
  ·exact E B
  ·rw[h] at B;exact iZ B
 ·refine bZ (T.gY a h) (λh=>?_) λh=>?_
  ·exact S.gY a h
  ·exact .inr<|S.rI h
theorem St.Jj(T:St C s F ι b d c e)(P:Pv bc F ι a)(h:s.heap.get? a=aa o):e.heap.get? a=aa o/\Pv bc b d a:=by
 refine⟨T.kp a o h P.ni,P.new,?_,λB=>?_⟩
 ·induction q:b a using aO with|none=>rfl|some E=>
   refine bZ (T.fn a E q) (λm=>?_) λm=>?_
   ·rw[P.fr] at m;exact bk m
   ·rw[h] at m;exact iZ m
 ·refine bZ (T.gY a B) (λm=>?_) λm=>?_
  ·exact P.ni m
  ·rw[h] at m;exact iZ m
theorem St.tok(S:St C bc cN cy F ι m s)(t:Nat):St C bc cN cy F ι m {s with toks:=t}:=by refine iX S.same λh E B=>?_;subst B;exact⟨gM h t rfl,S.fz,S.f0,S.fn,S.kp,S.i0,S.gY,S.len,S.st,S.fr,S.nd,S.ns⟩
theorem St.yk(S:St C bc cN cy F ι m s){t:Nat}(P:Pv bc F ι a)(hs:dp a s.heap h'):St C bc cN cy F ι m {s with heap:=h',toks:=t}:=by
 have B:∀b,(∃o,bc.heap.get? b=aa o)\/(∃o,F b=aa o)\/b∈ι->b≠a:=by
  rintro b (⟨o,h⟩|⟨o,h⟩|h) rfl
  ·rw[P.new] at h;exact bk h
  ·rw[P.fr] at h;exact bk h
  ·exact P.ni h
 exact iX S.same λh T M=>rwl M ⟨gM h' t rfl,λb o e=>hs b o (B b<|.inr<|.inl ⟨o,e⟩)<|S.fz b o e,S.f0,S.fn,λb o e O=>hs b o (B b<|.inl ⟨o,e⟩)<|S.kp b o e O,S.i0,S.gY,S.len,λi b o E R=>bo (S.st i b o E R) λJ x y=>i12 J (hs b J (B b<|.inr<|.inr<|get_mem E) x) y,S.fr,S.nd,S.ns⟩
theorem St.grow(S:St C bc cN cy F ι m s)(hk:∀b o,s.heap.get? b=aa o->h'.get? b=aa o):St C bc cN cy F ι m {s with heap:=h',toks:=t}:=iX S.same λh P E=>rwl E ⟨gM h' t rfl,λb o e=>hk b o<|S.fz b o e,S.f0,S.fn,λb o e J=>hk b o<|S.kp b o e J,S.i0,S.gY,S.len,λi b o M O=>bo (S.st i b o M O) λB x y=>i12 B (hk b B x) y,S.fr,S.nd,S.ns⟩
noncomputable def Fz.put(F:Fz)(a:aH)(o:Obj):Fz:=λb=>if b=a then aa o else F b
theorem Le.put(h:F a=ag):Le F (F.put a o):=λb s e=>by
 unfold Fz.put;by_cases m:b=a
 ·subst m;rw[h] at e;exact bk e
 ·rw[aB m];exact e
theorem Fz.m6(F:Fz)(a)(o):F.put a o a=aa o:=aC rfl
theorem St.freeze(S:St C bc cN cy F ι m s)(P:Pv bc F ι a)(ho:s.heap.get? a=aa o):St C bc cN cy (F.put a o) ι m s:=by
 have E:Le F (F.put a o):=.put P.fr;refine⟨S.same,λb J e=>?_,S.f0.trans E,λb J e=>?_,S.kp,S.i0,S.gY,S.len,λi b J M O=>?_,λb B=>?_,S.nd,S.ns⟩
 ·unfold Fz.put at e;by_cases B:b=a
  ·subst B;rw[aC rfl] at e;(have R:=bf e;subst R);exact ho
  ·rw[aB B] at e;exact S.fz b J e
 ·unfold Fz.put at e;by_cases B:b=a
  ·subst B;exact .inr P.new
  ·rw[aB B] at e;exact S.fn b J e
 ·exact bo (S.st i b J M O) λT x y=>i12 T x<|y.mono E<|.refl ι
 ·unfold Fz.put;rw[aB λ(e:b=a)=>P.ni<|rws e B];exact S.fr b B
theorem St.Eh(S:St C bc cN cy F ι m s){o:O}(P:Pv bc F ι a)(ho:s.heap.get? a=aa ob)(hr:di C F ι ob o)(hs:(a==sysModules)=aq):St C bc cN cy F (ι++[a]) (m++[o]) s:=by
 have J:=Pre.append ι [a];have M:∀i b,(ι++[a])[i]?=aa b->(ι[i]?=aa b/\i<ι.length)\/(i=ι.length/\b=a):=by
  intro i b e;rcases Nat.lt_trichotomy i ι.length with h|h|h
  ·rw[sI h] at e;exact .inl ⟨e,h⟩
  ·subst h;simp at e;exact .inr ⟨rfl,e.symm⟩
  ·rw[Co (by simp;assumption)] at e;exact bk e
 refine⟨S.same,S.fz,S.f0,S.fn,S.kp,S.i0.trans J,λb E=>?_,by simp[S.len],λi b c R B=>?_,λb E=>?_,λi j b R B=>?_,λb E=>(List.mem_append.mp E).elim (S.ns b) λh=>by rw[GL] at h;subst h;exact hs⟩
 ·refine bZ (List.mem_append.mp E) (λh=>?_) λh=>?_
  ·exact S.gY b h
  ·rw[GL] at h;subst h;exact .inr P.new
 ·rcases M i b R with⟨h,V⟩|⟨rfl,rfl⟩
  ·replace B:=(sI (S.len▸V))▸B;exact bo (S.st i b c h B) λd x y=>i12 d x<|y.mono (.refl F) J
  ·rw[S.len] at B;simp at B;subst B;exact i12 ob ho<|hr.mono (.refl F) J
 ·refine bZ (List.mem_append.mp E) (λh=>?_) λh=>?_
  ·exact S.fr b h
  ·rw[GL] at h;subst h;exact P.fr
 ·rcases M i b R with⟨h,V⟩|⟨f,E⟩<;>refine bZ (M j b B) (λT=>aW T λY l=>?_) (λT=>aW T λg k=>?_)
  ·exact S.nd i j b h Y
  ·exact aT (rws k<|get_mem h) P.ni
  ·exact aT (rws E<|get_mem Y) P.ni
  ·rw[f,g]
theorem St.upd(S:St C bc cN cy F ι m s){ob:Obj}(hi:ι[i]?=aa a)(hs:dp a s.heap h')(ho:h'.get? a=aa ob)(hr:di C F ι ob o):
  St C bc cN cy F ι (m.set i o) {s with heap:=h',toks:=t}:=by
 refine iX S.same λh Y T=>rwl T ⟨gM h' t rfl,λb o e=>hs b o (λ(q:b=a)=>?_)<|S.fz b o e,S.f0,S.fn,λb o e P=>?_,S.i0,S.gY,by simp[S.len],λj b V E B=>?_,S.fr,S.nd,S.ns⟩
 ·have:=S.fr a<|get_mem hi;rw[<-q,e] at this;exact iZ this
 ·refine hs b o (λ(q:b=a)=>?_)<|S.kp b o e P;subst q;refine bZ (S.gY b<|get_mem hi) (λJ=>?_) λJ=>?_
  ·exact P J
  ·rw[e] at J;exact iZ J
 ·by_cases M:i=j
  ·subst M;rw[hi] at E;(have O:=bf E;subst O);replace B:=(List.getElem?_set_self')▸B;induction q:m[i]? using aO with|none=>rw[q] at B;exact bk B|some z=>rw[q] at B;(have O:=bf B;subst O);exact i12 ob ho hr
  ·replace B:=(Cp M)▸B;exact bo (S.st j b V E B) λR x y=>i12 R (hs b R (λ(q:b=a)=>M<|S.nd i j a hi<|rws q E) x) y
theorem St.jz(S:St C bc cN cy F ι m s)(h:s.heap.get? a=ag):Pv bc F ι a:=by
 refine⟨S.rI h,?_,λB=>?_⟩
 ·induction q:F a using aO with|none=>rfl|some o=>have:=S.fz a o q;rw[h] at this;exact bk this
 ·refine bu (S.there B) λE e=>?_;rw[h] at e;exact bk e
theorem rn(h:eM):h.get? h.objs.size=ag:=by induction q:h.get? h.objs.size using aO with|none=>rfl|some o=>exact aT (i7 q) (sL _)
end
structure kD(C:Cx)(Φ:List aH)(bc:az)(cN:Fz)(cy:List aH)(F:Fz)(ι:List aH)(m:J)(s:az):Prop where
 same:∃h tk,s={bc with heap:=h,toks:=tk}
 fz:∀a o,F a=aa o->s.heap.get? a=aa o
 f0:Le cN F
 fn:∀a o,F a=aa o->cN a=aa o\/bc.heap.get? a=ag
 kp:∀a o,bc.heap.get? a=aa o->a∉cy->a∉Φ->s.heap.get? a=aa o
 kq:∀a o,bc.heap.get? a=aa o->a∈Φ->∃sl,s.heap.get? a=aa {o with slots:=sl}
 i0:Pre cy ι
 gY:∀a∈ι,a∈cy\/bc.heap.get? a=ag
 len:ι.length=m.length
 st:∀(i:Nat)(a:aH)(o:O),ι[i]?=aa a->m[i]?=aa o->∃ob,s.heap.get? a=aa ob/\di C F ι ob o
 fr:∀a∈ι,F a=ag
 nd:∀(i j:Nat)(a:aH),ι[i]?=aa a->ι[j]?=aa a->i=j
 ns:∀a∈ι,(a==sysModules)=aq
section
variable{C:Cx}{bc s s':az}{cN F F':Fz}{cy ι av:lk}{m m':J}{Φ Ψ:lk}
theorem St.toX(S:St C bc cN cy F ι m s)(h:∀a∈Φ,a∉cy):kD C Φ bc cN cy F ι m s:=
 ⟨S.same,S.fz,S.f0,S.fn,λa o e B Z=>S.kp a o e B,λa o e E=>⟨o.slots,S.kp a o e<|h a E⟩,S.i0,S.gY,S.len,S.st,S.fr,S.nd,S.ns⟩
theorem kD.am6(S:kD C [] bc cN cy F ι m s):St C bc cN cy F ι m s:=
 ⟨S.same,S.fz,S.f0,S.fn,λa o e B=>S.kp a o e B (by simp),S.i0,S.gY,S.len,S.st,S.fr,S.nd,S.ns⟩
theorem St.SG(S:St C bc cN cy F ι m s)(T:kD C Ψ s F ι f g b i)(j:∀a∈Φ,a∉cy)(d:∀a∈Ψ,a∈Φ\/bc.heap.get? a=ag):kD C Φ bc cN cy f g b i:=by
 have O:∀a o,bc.heap.get? a=aa o->a∉cy->a∉ι:=λa o h E J=>by
  refine bZ (S.gY a J) (λB=>?_) λB=>?_
  ·exact E B
  ·rw[h] at B;exact iZ B
 refine⟨?_,T.fz,S.f0.trans T.f0,λa o h=>?_,λa o h E M=>?_,λa o h M=>?_,S.i0.trans T.i0,λa h=>?_,T.len,T.st,T.fr,T.nd,T.ns⟩
 ·exact iX S.same λh V e=>iX T.same λB P R=>gM B P (by rw[R,e])
 ·refine bZ (T.fn a o h) (λh=>?_) λh=>?_
  ·exact S.fn a o h
  ·exact .inr<|S.rI h
 ·refine T.kp a o (S.kp a o h E) (O a o h E) λJ=>bZ (d a J) (λB=>?_) λB=>?_
  ·exact M B
  ·rw[h] at B;exact iZ B
 ·have E:=j a M;by_cases c:a∈Ψ
  ·exact T.kq a o (S.kp a o h E) c
  ·exact⟨o.slots,T.kp a o (S.kp a o h E) (O a o h E) c⟩
 ·refine bZ (T.gY a h) (λh=>?_) λh=>?_
  ·exact S.gY a h
  ·exact .inr<|S.rI h
theorem kD.TV(T:kD C Φ s F ι F' av m' s')(P:Pv b F ι a)(h:s.heap.get? a=aa o):Pv b F' av a:=by
 refine⟨P.new,?_,λB=>?_⟩
 ·induction q:F' a using aO with|none=>rfl|some E=>
   refine bZ (T.fn a E q) (λm=>?_) λm=>?_
   ·rw[P.fr] at m;exact bk m
   ·rw[h] at m;exact iZ m
 ·refine bZ (T.gY a B) (λm=>?_) λm=>?_
  ·exact P.ni m
  ·rw[h] at m;exact iZ m
theorem kD.chg(S:kD C Φ bc cN cy F ι m s)(hk:∀b o,s.heap.get? b=aa o->((∃q,F b=aa q)\/b∈ι\/∃q,bc.heap.get? b=aa q)->b∉Φ->h'.get? b=aa o)
  (a:∀b o,b∈Φ->s.heap.get? b=aa o->∃sl,h'.get? b=aa {o with slots:=sl})(hf:∀b∈Φ,F b=ag/\b∉ι):kD C Φ bc cN cy F ι m {s with heap:=h',toks:=t}:=by
 refine iX S.same λh Y M=>rwl M ⟨gM h' t rfl,λb o e=>hk b o (S.fz b o e) (.inl ⟨o,e⟩) λB=>?_,S.f0,S.fn,λb o e O B=>hk b o (S.kp b o e O B) (.inr<|.inr ⟨o,e⟩) B,λb o e B=>?_,S.i0,S.gY,S.len,λi b o E P=>?_,S.fr,S.nd,S.ns⟩
 ·rw[(hf b B).1] at e;exact bk e
 ·exact bu (S.kq b o e B) λsl R=>bu (a b _ B R) λT V=>⟨T,V⟩
 ·exact bo (S.st i b o E P) λJ x y=>i12 J (hk b J x (.inr<|.inl<|get_mem E) λB=>(hf b B).2<|get_mem E) y
theorem kD.jz(S:kD C Φ bc cN cy F ι m s)(b:∀a∈Φ,a∉cy)(h:s.heap.get? a=ag):Pv bc F ι a:=by
 refine⟨?_,?_,λJ=>?_⟩
 ·induction q:bc.heap.get? a using aO with|none=>rfl|some o=>
   exfalso;by_cases J:a∈Φ
   ·refine bu (S.kq a o q J) λR e=>?_;rw[h] at e;exact bk e
   ·by_cases B:a∈cy
    ·refine DL B λi B=>?_;have O:=S.i0 _ _ B;refine bu (List.getElem?_eq_some_iff.mp O) λM Z=>?_;refine bo (S.st i a (m[i]'(rws S.len M)) O<|cT _) λP E Z=>?_;rw[h] at E;exact bk E
    ·have:=S.kp a o q B J;rw[h] at this;exact bk this
 ·induction q:F a using aO with|none=>rfl|some o=>have:=S.fz a o q;rw[h] at this;exact bk this
 ·refine DL J λi B=>bu (List.getElem?_eq_some_iff.mp B) λM Z=>?_;refine bo (S.st i a (m[i]'(rws S.len M)) B<|cT _) λP E Z=>?_;rw[h] at E;exact bk E
end
end
section
set_option genInjectivity true in
inductive R(α:Type) where|ok(a:α)(m:J)|exc(why:Nm)(m:J)|H
noncomputable def R.ctorIdx{α:Type}(t:R α):Nat:=R.casesOn t (λZ Z=>0) (λZ Z=>1) 2
namespace R
@[reducible] noncomputable def bind{α β:Type}(x:R α)(f:α->J->R β):R β:=match x with|.ok a m=>f a m|.exc y m=>.exc y m|.H=>.H
end R
inductive BO where|add|sub|mul|fdiv|mod|pow|shl|shr|band|bor|bxor [h:Nonempty Unit]
noncomputable def BO.ctorIdx(t:BO):Nat:=BO.casesOn t 0 1 2 3 4 5 6 7 8 9 10
inductive CO where|eq|ne|lt|le|gt|ge|is|tM|mem|lu [h:Nonempty Unit]
noncomputable def CO.ctorIdx(t:CO):Nat:=CO.casesOn t 0 1 2 3 4 5 6 7 8 9
inductive BI where|len|range|sum|min|max|sorted|bytes|bytearray|tuple|isinstance [h:Nonempty Unit]
noncomputable def BI.ctorIdx(t:BI):Nat:=BI.casesOn t 0 1 2 3 4 5 6 7 8 9
inductive E where|bU(v:V)|dB(x:Nm)|ba(k:Nat)|tup(l:List E)|lst(l:List E)|kj(l:List E)|aA(l:List (E×E))|fq(l:List (E×E))|vA|attr(e:E)(x:Nm)|sub(e i:E)|eY(e:E)(lo hi:Option E)|call(f:E)(l:List E)|bi(b:BI)(l:List E)|hO(e:E)(a:E)|qr(e:E)(a:E)|bin(o:BO)(a b:E)|cmp(o:CO)(a b:E)|and(l:List E)|or(l:List E)|not(e:E)|neg(e:E)|ite(t a b:E)|comp(elt it:E)(cond:Option E)(fr:List Nat)|H
noncomputable def E.ctorIdx(t:E):Nat:=E.casesOn t (λZ=>0) (λZ=>1) (λZ=>2) (λZ=>3) (λZ=>4) (λZ=>5) (λZ=>6) (λZ=>7) 8 (λZ Z=>9) (λZ Z=>10) (λZ Z Z=>11) (λZ Z=>12) (λZ Z=>13) (λZ Z=>14) (λZ Z=>15) (λZ Z Z=>16) (λZ Z Z=>17) (λZ=>18) (λZ=>19) (λZ=>20) (λZ=>21) (λZ Z Z=>22) (λZ Z Z Z=>23) 24
inductive T where|nm(k:Nat)|attr(o:E)(x:Nm)|sub(o i:E)|eY(o:E)(lo hi:Option E)|tup(l:List T)
noncomputable def T.ctorIdx(t:T):Nat:=T.casesOn t (λZ=>0) (λZ Z=>1) (λZ Z=>2) (λZ Z Z=>3) λZ=>4
inductive S where|expr(e:E)|aQ(t:T)(e:E)|tX(k:Nat)(e:E)|tY(e:E)(x:Nm)(e':E)|ifs(t:E)(a b:List S)|dN(t:T)(e:E)(b:List S)|uY(t:E)(b:List S)|ret(e:Option E)|brk|pass|raise(e:E)|tZ(b:List S)(kf kt:Nat)|H
noncomputable def S.ctorIdx(t:S):Nat:=S.casesOn t (λZ=>0) (λZ Z=>1) (λZ Z=>2) (λZ Z Z=>3) (λZ Z Z=>4) (λZ Z Z=>5) (λZ Z=>6) (λZ=>7) 8 9 (λZ=>10) (λZ Z Z=>11) 12
set_option genInjectivity true in
inductive Sl where|un|val(v:V)|own(o:O)
noncomputable def Sl.ctorIdx(t:Sl):Nat:=Sl.casesOn t 0 (λZ=>1) λZ=>2
noncomputable abbrev Env:=List Sl
inductive Fl where|nx(e:Env)(m:J)|br(e:Env)(m:J)|rt(v:V)(m:J)|ex(why:Nm)(e:Env)(m:J)|H
noncomputable def Fl.ctorIdx(t:Fl):Nat:=Fl.casesOn t (λZ Z=>0) (λZ Z=>1) (λZ Z=>2) (λZ Z Z=>3) 4
noncomputable def rv(m:J):V->V
 |.ref i=>match m[i]? with
  |some (.lst l)=>.lst l
  |some (.aA l)=>.aA l
  |some (.bar b)=>.bar b
  |_=>.ref i
 |v=>v
noncomputable def eqZ(f:V->V->Option Bool):mV->mV->Option Bool
 |a::B,b::E=>match f a b,eqZ f B E with
  |some x,aa y=>aa<|x&&y
  |_,_=>ag
 |[],[]=>aa ae
 |_,_=>aa aq
noncomputable def V.rO(v:V):Option {_u:Unit//v=.none}:=match v with|.none=>aa ⟨(),rfl⟩|_=>qU
noncomputable def V.bool?(v:V):Option {b:Bool//v=.bool b}:=match v with|.bool b=>aa ⟨b,rfl⟩|_=>qU
noncomputable def V.dw(v:V):Option {i:Int//v=.int i}:=match v with|.int i=>aa ⟨i,rfl⟩|_=>qU
noncomputable def V.oJ(v:V):Option {x:Nm//v=.str x}:=match v with|.str x=>aa ⟨x,rfl⟩|_=>qU
noncomputable def V.Fc(v:V):Option {l:z0//v=.bb l}:=match v with|.bb l=>aa ⟨l,rfl⟩|_=>qU
noncomputable def V.Fe(v:V):Option {l:mV//v=.tup l}:=match v with|.tup l=>aa ⟨l,rfl⟩|_=>qU
noncomputable def V.t4(v:V):Option {l:mV//v=.lst l}:=match v with|.lst l=>aa ⟨l,rfl⟩|_=>qU
noncomputable def V.rZ(v:V):Option {l:Lb//v=.aA l}:=match v with|.aA l=>aa ⟨l,rfl⟩|_=>qU
noncomputable def V.Ff(v:V):Option {i:Nat//v=.ref i}:=match v with|.ref i=>aa ⟨i,rfl⟩|_=>qU
noncomputable def V.JL(v:V):Option {p:Nm×Nat//v=.inst p.1 p.2}:=match v with|.inst c i=>aa ⟨(c,i),rfl⟩|_=>qU
noncomputable def V.fn?(v:V):Option {x:Nm//v=.fn x}:=match v with|.fn x=>aa ⟨x,rfl⟩|_=>qU
section
variable{α β:Type}{P:α->Prop}{o:Option {a//P a}}{G:Prop}
theorem vm(e:o.map f=aa r)(k:∀(a)(h),f ⟨a,h⟩=r->G):G:=ej e λx Z h=>k x.1 x.2 h
theorem cO(e:o.bind f=aa r)(k:∀(a)(h),f ⟨a,h⟩=aa r->G):G:=lZ e λx Z h=>k x.1 x.2 h
theorem km(e:o.map f=aa r):∃(a:α)(h:P a),f ⟨a,h⟩=r:=vm e λa h e=>⟨a,h,e⟩
theorem rP(e:o.bind f=aa r):∃(a:α)(h:P a),f ⟨a,h⟩=aa r:=cO e λa h e=>⟨a,h,e⟩
end
theorem dA{α:Type}[Decidable c]{a r:α}(e:(if c then aa a else ag)=aa r){G:Prop}(kk:c->a=r->G):G:=by
 by_cases h:c
 ·rw[aC h] at e;exact kk h<|bf e
 ·rw[aB h] at e;exact bk e
noncomputable def BU(a b:V):Option Bool:=match a with|.none=>b.rO.map λZ=>ae|.bool x=>b.bool?.map λy=>x==y.1|.int x=>b.dw.map λy=>x==y.1|.str x=>b.oJ.map λy=>x==y.1|_=>ag
noncomputable def ib:Nat->V->V->Option Bool|0,a,b=>BU a b|n+1,a,b=>match a with|.tup x=>b.Fe.bind λy=>eqZ (ib n) x y.1|.lst x=>b.t4.bind λy=>eqZ (ib n) x y.1|_=>BU a b
noncomputable def look(x:Nm):Lb->La|[]=>ag|(y,v)::r=>if x=y then aa v else look x r
noncomputable def gp(x:Int):List (Int×V)->La|[]=>ag|(y,v)::r=>if x=y then aa v else gp x r
noncomputable def putD(x:Nm)(v:V):Lb->Lb|[]=>[(x,v)]|(y,u)::r=>if x=y then(y,v)::r else(y,u)::putD x v r
noncomputable def mj(x:Int)(v:V):List (Int×V)->List (Int×V)|[]=>[(x,v)]|(y,u)::r=>if x=y then(y,v)::r else(y,u)::mj x v r
theorem ak7:look x ((y,v)::r)=if x=y then aa v else look x r:=rfl
theorem aix:gp x ((y,v)::r)=if x=y then aa v else gp x r:=rfl
theorem ak8:putD x v ((y,u)::r)=if x=y then(y,v)::r else(y,u)::putD x v r:=rfl
theorem JM:mj x v ((y,u)::r)=if x=y then(y,v)::r else(y,u)::mj x v r:=rfl
noncomputable def lB(a:Int):Bool:=decide<|a.natAbs.log2<4000000
def intOp(o:BO)(a b:Int):Option Int:=match o with|.add=>aa (a+b)|.sub=>aa (a-b)|.mul=>if lB a&&lB b then aa (a*b) else ag|.fdiv=>if b≠0/\b.natAbs.log2<9000 then aa (cU a b) else ag|.mod=>if b≠0 then aa (bX a b) else ag|.pow=>if a.natAbs.log2<64/\0<=b/\b<=1024 then aa (a^b.toNat) else ag|.shl=>if lB a/\0<=b/\b<=1024 then aa (a*2^b.toNat) else ag|.shr=>if 0<=b then aa (a.fdiv<|2^b.toNat) else ag|.band=>aa (GN a b)|.bor=>aa (GO a b)|.bxor=>aa<|MB a b
noncomputable def BO.isAdd:BO->Bool|.add=>ae|_=>aq
noncomputable def BO.isMul:BO->Bool|.mul=>ae|_=>aq
def iz(o:BO)(a b:V):La:=match a with
 |.int a=>b.dw.bind λb=>(intOp o a b.1).map .int
 |.tup a=>b.Fe.bind λb=>if o.isAdd=ae/\a.length+b.1.length<=1000 then aa (.tup<|a++b.1) else ag
 |.lst a=>cond o.isAdd (b.t4.bind λb=>if o.isAdd=ae/\a.length+b.1.length<=1000 then aa (.lst<|a++b.1) else ag)
   (b.dw.bind λn=>if o.isMul=ae/\0<=n.1/\n.1<=8/\a.length<=8 then aa (.lst (gQ n.1.toNat a).flatten) else ag)
 |.str a=>b.oJ.bind λb=>if o.isAdd=ae/\a.length+b.1.length<=1000 then aa (.str<|a++b.1) else ag
 |.bb a=>b.Fc.bind λb=>if o.isAdd=ae/\a.length+b.1.length<=1000 then aa (.bb<|a++b.1) else ag
 |_=>ag
noncomputable def t5:V->V->La|.int a,.int b=>aa (.int<|a+b)|.bb a,.bb b=>if a.length+b.length<=1000 then aa (.bb<|a++b) else ag|_,_=>ag
noncomputable def Ei(o:Option O):Option mV:=match o with|none=>ag|some o=>match o with|.bW l=>if (l.map (·.1)).Nodup then aa (l.map λp=>.int p.1) else ag|.aA l=>if (l.map (·.1)).Nodup then aa (l.map λp=>.str p.1) else ag|.lst l=>if l.length<=1000000 then aa l else ag|.bar _=>ag
def ei(m:J):V->Option mV|.tup l=>if l.length<=1000000 then aa l else ag|.lst l=>if l.length<=1000000 then aa l else ag|.aA l=>if (l.map (·.1)).Nodup then aa (l.map λp=>.str p.1) else ag|.bb l=>aa (l.map λ(b:Nat)=>.int b)|.bar l=>aa (l.map λ(b:Nat)=>.int b)|.dW a b c=>if c>0/\a.natAbs<1000000/\b.natAbs<1000000/\c<1000 then aa ((gb (if a<b then(b-a-1)/c+1 else 0).toNat).map λ(k:Nat)=>.int<|a+c*k) else ag|.ref i=>Ei m[i]?|_=>ag
noncomputable def AI(o:Option O):Bool:=match o with|none=>aq|some o=>match o with|.lst _=>ae|_=>aq
def d9(m:J):V->Bool|.ref i=>AI m[i]?|_=>aq
def gj(m:J)(v:V)(kd:Bool):Option mV:=if d9 m v=kd then ei m v else ag
def Al(m:J):V->Bool|.dW _ _ _=>ae|.lst _=>ae|v=>d9 m v
def td(m:J)(v:V):Option mV:=if Al m v=ae then(ei m v).bind λl=>if l.length<=1000 then aa l else ag else ag
def xU(m:J)(v:V)(kd:Bool)(n:Nat):Option mV:=(gj m v kd).bind λl=>if l.length=n then aa l else ag
noncomputable def yl(v:V):mV->Option Bool|[]=>aa aq|a::r=>match ib 60 a v,yl v r with|some x,aa y=>aa (x||y)|_,_=>ag
noncomputable def Bp(o:Option O):Option {l:List (Int×V)//o=aa (.bW l)}:=match o with|some (.bW l)=>aa ⟨l,rfl⟩|_=>ag
noncomputable def rZ(o:Option O):Option {l:Lb//o=aa (.aA l)}:=match o with|some (.aA l)=>aa ⟨l,rfl⟩|_=>ag
noncomputable def t4(o:Option O):Option {l:mV//o=aa (.lst l)}:=match o with|some (.lst l)=>aa ⟨l,rfl⟩|_=>ag
noncomputable def UE(o:Option O):Option {l:z0//o=aa (.bar l)}:=match o with|some (.bar l)=>aa ⟨l,rfl⟩|_=>ag
def qn(m:J)(a b:V):Option Bool:=match rv m b with|.tup l=>yl a l|.aA l=>a.oJ.map λx=>(look x.1 l).isSome|.dW i j k=>a.dw.bind λn=>if k=1 then aa (decide<|i<=n.1/\n.1<j) else ag|.ref i=>a.dw.bind λn=>(Bp m[i]?).map λl=>(gp n.1 l.1).isSome|_=>ag
def VK(a b:Lb):Option Bool:=if a.map (·.1)=b.map (·.1)/\(a.map (·.1)).Nodup/\a.length<=64 then eqZ (ib 60) (a.map (·.2)) (b.map (·.2)) else ag
def eqT(a b:V):Option Bool:=match a with|.aA x=>b.rZ.bind λy=>VK x y.1|.bb x=>b.Fc.map λy=>x==y.1|_=>ib 61 a b
def vN(m:J)(a b:V):Option Bool:=eqT (rv m a)<|rv m b
def Bq(f:Int->Int->Bool)(a b:V):La:=a.dw.bind λa=>b.dw.map λb=>.bool<|f a.1 b.1
noncomputable def VL(y:Bool)(a b:V):La:=b.rO.map λZ=>.bool<|a.rO.isSome==y
def fF(m:J)(o:CO)(a b:V):La:=match o with|.eq=>(vN m a b).map .bool|.ne=>(vN m a b).map λx=>.bool !x|.lt=>Bq (λa b=>decide<|a<b) a b|.le=>Bq (λa b=>decide<|a<=b) a b|.gt=>Bq (λa b=>decide<|b<a) a b|.ge=>Bq (λa b=>decide<|b<=a) a b|.is=>VL ae a b|.tM=>VL aq a b|.mem=>(qn m a b).map .bool|.lu=>(qn m a b).map λx=>.bool !x
noncomputable def idx{α:Type}(l:List α)(i:Int):Option α:=if 0<=i/\i<1000000 then l[i.toNat]? else ag
def vB(m:J)(a i:V):La:=match rv m a with|.tup l=>i.dw.bind λi=>idx l i.1|.lst l=>i.dw.bind λi=>idx l i.1|.bb l=>i.dw.bind λi=>(idx l i.1).map λ(b:Nat)=>.int b|.bar l=>i.dw.bind λi=>(idx l i.1).map λ(b:Nat)=>.int b|.aA l=>i.oJ.bind λx=>look x.1 l|.ref j=>i.dw.bind λi=>(Bp m[j]?).bind λl=>gp i.1 l.1|_=>ag
noncomputable def ie:La->Option (Option Nat)|none=>aa ag|some (.int i)=>if 0<=i/\i<1000000 then aa (aa i.toNat) else ag|_=>ag
noncomputable def cut{α:Type}(l:List α)(lo hi:Option Nat):List α:=(l.take<|hi.getD l.length).drop<|lo.getD 0
noncomputable def UG(l:mV)(lo hi:Option Nat):La:=match lo with|none=>ag|some k=>(match hi with|some _=>ag|none=>if 1<=k/\k<=l.length/\l.length<=1000000 then aa (.tup<|l.drop k) else ag)
def UH(a:V)(lo hi:Option Nat):La:=match a with|.tup l=>UG l lo hi|.lst l=>if l.length<=1000000 then aa (.lst<|cut l lo hi) else ag|.bb l=>if l.length<=1000000 then aa (.bb<|cut l lo hi) else ag|.bar l=>if l.length<=1000000 then aa (.bar<|cut l lo hi) else ag|.str l=>if l.length<=1000000 then aa (.str<|cut l lo hi) else ag|_=>ag
def t6(m:J)(a:V)(lo hi:La):La:=(ie lo).bind λlo=>(ie hi).bind λhi=>UH (rv m a) lo hi
noncomputable def intsOf:mV->Option (List Int)|[]=>aa []|.int i::r=>(intsOf r).map (i::·)|_=>ag
noncomputable def oA:mV->Option z0|[]=>aa []|.int i::r=>if 0<=i/\i<256 then(oA r).map (i.toNat::·) else ag|_=>ag
noncomputable def rQ:List Int->Bool|[]=>ae|[_]=>ae|a::b::r=>decide (a<b)&&rQ (b::r)
noncomputable def nt:List Nm:=[[67,111,117,110,116,101,114],[81,117,111,116,97]]
noncomputable def UI:V->Option Nat|.tup l=>aa l.length|.lst l=>aa l.length|.bb l=>aa l.length|.bar l=>aa l.length|_=>ag
def ma(m:J)(d:V):La:=(UI<|rv m d).bind λn=>if n<=1000000 then aa (.int n) else ag
def D3:mV->La|[b]=>b.dw.map λb=>.dW 0 b.1 1|[a,b]=>a.dw.bind λa=>b.dw.map λb=>.dW a.1 b.1 1|[a,b,c]=>a.dw.bind λa=>b.dw.bind λb=>c.dw.bind λc=>if c.1>0/\c.1<1000 then aa (.dW a.1 b.1 c.1) else ag|_=>ag
def EO(m:J)(d:V):La:=(rv m d).t4.bind λl=>(intsOf l.1).map λl=>.int l.sum
def EP(a b:V):La:=a.dw.bind λa=>b.dw.map λb=>.int (if b.1<a.1 then b.1 else a.1)
def ER(a b:V):La:=a.dw.bind λa=>b.dw.map λb=>.int (if a.1<b.1 then b.1 else a.1)
def DM(m:J)(d:V):La:=d.Ff.bind λi=>(Bp m[i.1]?).bind λl=>if rQ (l.1.map (·.1))/\l.1.length<=8 then aa (.lst (l.1.map λp=>.int p.1)) else ag
def lq(m:J)(d:V):La:=match rv m d with|.lst l=>if l.length<=1000000 then(oA l).map .bb else ag|.bar b=>if b.length<=1000000 then aa (.bb b) else ag|.bb b=>aa (.bb b)|_=>ag
def Am(m:J)(d:V):La:=(rv m d).t4.bind λl=>if l.1.length<=1000000 then aa (.tup l.1) else ag
def A3(m:J)(a b:V):La:=a.JL.bind λp=>b.fn?.bind λx=>if nt.contains p.1.1&&nt.contains x.1 then(rZ m[p.1.2]?).map λZ=>.bool (decide<|p.1.1=x.1) else ag
noncomputable def JN(m:J):V->R V|.bb b=>if b.length<=1000000 then .ok (.ref m.length) (m++[.bar b]) else .H|_=>.H
noncomputable def R.opt{α β:Type}(o:Option α)(f:α->R β):R β:=match o with|some a=>f a|none=>.H
noncomputable def R.nx{α β:Type}(r:R α)(f:α->J->R β):R β:=match r with|.ok a m=>f a m|_=>.H
noncomputable def bR{α:Type}(a b:J->R α)(v:V)(m:J):R α:=match v with|.bool ae=>a m|.bool aq=>b m|_=>.H
noncomputable def R.of(m:J):La->R V|some v=>.ok v m|none=>.H
def qF(b:BI)(l:mV)(m:J):R V:=match b with
 |.len=>(match l with
  |[d]=>R.of m<|ma m d
  |_=>.H)
 |.range=>R.of m<|D3 l
 |.sum=>(match l with
  |[d]=>R.of m<|EO m d
  |_=>.H)
 |.min=>(match l with
  |[a,b]=>R.of m<|EP a b
  |_=>.H)
 |.max=>(match l with
  |[a,b]=>R.of m<|ER a b
  |_=>.H)
 |.sorted=>(match l with
  |[d]=>R.of m<|DM m d
  |_=>.H)
 |.bytes=>(match l with
  |[d]=>R.of m<|lq m d
  |_=>.H)
 |.bytearray=>(match l with
  |[d]=>JN m d
  |_=>.H)
 |.tuple=>(match l with
  |[d]=>R.of m<|Am m d
  |_=>.H)
 |.isinstance=>(match l with
  |[a,b]=>R.of m<|A3 m a b
  |_=>.H)
noncomputable abbrev i3:=Nm->mV->J->R V
def xV(ok:Nm->Nm->Bool)(m:J)(v:V)(x:Nm):La:=v.JL.bind λp=>if ok p.1.1 x then(rZ m[p.1.2]?).bind λl=>look x l.1 else ag
noncomputable def Sl.get(e:Env)(k:Nat):La:=match e[k]? with|some (.val v)=>aa v|_=>ag
def Fg(m:J)(v u:V):Option J:=v.Ff.bind λi=>(t4 m[i.1]?).bind λl=>if l.1.length<100000 then aa (m.set i.1<|.lst<|l.1++[u]) else ag
noncomputable def R.st:Option J->R V|some m=>.ok .none m|none=>.H
def am7(m:J)(v u:V):R V:=R.st<|Fg m v u
def A4(m:J)(v:V):Bool:=match rv m v with|.aA _=>ae|_=>aq
def Br(m:J)(v u:V):La:=(rv m v).rZ.bind λl=>u.oJ.map λx=>(look x.1 l.1).getD .none
noncomputable def j5:List (V×V)->Option (List<|Nm×V)|[]=>aa []|(.str x,v)::r=>(j5 r).map ((x,v)::·)|_=>ag
noncomputable def eG:Lb->Lb->Lb|acc,[]=>acc|acc,(x,v)::r=>eG (putD x v acc) r
section
variable(ok:Nm->Nm->Bool)(κ:i3)
noncomputable def uZ(cond:Env->J->R V)(b:Env->J->R V)(fr:Env)(a:V)(kd:Bool)(n:Nat):Nat->mV->J->R V|0,B,m=>R.opt (xU m a kd n) λZ=>.ok (.lst B) m|r+1,B,m=>R.opt (xU m a kd n) λl=>R.opt l[n-(r+1)]? λv=>R.nx (cond (.val v::fr) m) (bR (λm=>R.nx (b (.val v::fr) m) λx m=>uZ cond b fr a kd n r (B++[x]) m) λm=>uZ cond b fr a kd n r B m)
mutual
noncomputable def bI(e:Env)(m:J):E->R V
 |.bU v=>.ok v m
 |.dB x=>.ok (.fn x) m
 |.ba k=>match Sl.get e k with
  |some v=>.ok v m
  |none=>.H
 |.tup l=>(jH e m l).bind λB m=>.ok (.tup B) m
 |.lst l=>(jH e m l).bind λB m=>.ok (.lst B) m
 |.kj l=>(jH e m l).bind λB m=>.ok (.ref m.length)<|m++[.lst B]
 |.aA l=>(gF e m l).bind λM m=>match j5 M with
  |some l=>.ok (.aA<|eG [] l) m
  |none=>.H
 |.fq l=>(gF e m l).bind λM m=>match j5 M with
  |some l=>.ok (.ref m.length)<|m++[.aA<|eG [] l]
  |none=>.H
 |.vA=>.ok (.ref m.length)<|m++[.bW []]
 |.attr a x=>(bI e m a).bind λv m=>match xV ok m v x with
  |some u=>.ok u m
  |none=>.H
 |.sub a i=>(bI e m a).bind λv m=>(bI e m i).bind λj m=>match vB m v j with
  |some u=>.ok u m
  |none=>.H
 |.eY a lo O=>(bI e m a).bind λv m=>(nF e m lo).bind λlo m=>(nF e m O).bind λO m=>match t6 m v lo O with
  |some u=>.ok u m
  |none=>.H
 |.call f l=>(bI e m f).bind λg m=>match g with
  |.fn x=>(jH e m l).bind λB m=>κ x B m
  |_=>.H
 |.bi b l=>(jH e m l).bind λB m=>qF b B m
 |.hO a x=>(bI e m a).bind λv m=>match d9 m v with
  |true=>(bI e m x).bind λu m=>am7 m v u
  |false=>.H
 |.qr a x=>(bI e m a).bind λv m=>match A4 m v with
  |true=>(bI e m x).bind λu m=>R.of m<|Br m v u
  |false=>.H
 |.bin o a b=>(bI e m a).bind λv m=>(bI e m b).bind λu m=>match iz o (rv m v) (rv m u) with
  |some r=>.ok r m
  |none=>.H
 |.cmp o a b=>(bI e m a).bind λv m=>(bI e m b).bind λu m=>match fF m o v u with
  |some r=>.ok r m
  |none=>.H
 |.and l=>A5 e m l
 |.or l=>Bs e m l
 |.not a=>(bI e m a).bind λv m=>match v with
  |.bool b=>.ok (.bool !b) m
  |_=>.H
 |.neg a=>(bI e m a).bind λv m=>match v with
  |.int i=>.ok (.int<|-i) m
  |_=>.H
 |.ite t a b=>(bI e m t).bind λv m=>match v with
  |.bool ae=>bI e m a
  |.bool aq=>bI e m b
  |_=>.H
 |.comp P T cond S=>match S.all λk=>decide (k<e.length) with
  |true=>(bI e m T).bind λv m=>R.opt (td m v) λl=>uZ (λe m=>yF e m cond) (λe m=>bI e m P) (S.map λk=>(e[k]?).getD .un) v (d9 m v) l.length l.length [] m
  |false=>.H
 |.H=>.H
noncomputable def jH(e:Env)(m:J):List E->R mV|[]=>.ok [] m|a::r=>(bI e m a).bind λv m=>(jH e m r).bind λB m=>.ok (v::B) m
noncomputable def gF(e:Env)(m:J):List (E×E)->R (List<|V×V)|[]=>.ok [] m|(a,b)::r=>(bI e m a).bind λv m=>(bI e m b).bind λu m=>(gF e m r).bind λB m=>.ok ((v,u)::B) m
noncomputable def nF(e:Env)(m:J):Option E->R La|none=>.ok ag m|some a=>(bI e m a).bind λv m=>.ok (aa v) m
noncomputable def yF(e:Env)(m:J):Option E->R V|none=>.ok (.bool ae) m|some a=>bI e m a
noncomputable def A5(e:Env)(m:J):List E->R V
 |[]=>.H
 |[a]=>(bI e m a).bind λv m=>match v with
  |.bool b=>.ok (.bool b) m
  |_=>.H
 |a::r=>(bI e m a).bind λv m=>match v with
  |.bool ae=>A5 e m r
  |.bool aq=>.ok (.bool aq) m
  |_=>.H
noncomputable def Bs(e:Env)(m:J):List E->R V
 |[]=>.H
 |[a]=>(bI e m a).bind λv m=>match v with
  |.bool b=>.ok (.bool b) m
  |_=>.H
 |a::r=>(bI e m a).bind λv m=>match v with
  |.bool aq=>Bs e m r
  |.bool ae=>.ok (.bool ae) m
  |_=>.H
end
end
end
section
variable(ok:Nm->Nm->Bool)(κ:i3)
def setAt(m:J)(j:Nat)(i v:V)(o:Option O):Option J:=match o with|none=>ag|some o=>match o with|.lst l=>i.dw.bind λi=>if 0<=i.1/\i.1<l.length/\l.length<1000000 then aa (m.set j<|.lst<|l.set i.1.toNat v) else ag|.aA l=>i.oJ.bind λx=>if l.length<100000 then aa (m.set j<|.aA<|putD x.1 v l) else ag|.bW l=>i.dw.bind λi=>if l.length<100000 then aa (m.set j<|.bW<|mj i.1 v l) else ag|_=>ag
def Jl(m:J)(o i v:V):Option J:=o.Ff.bind λj=>setAt m j.1 i v m[j.1]?
def setAttr(m:J)(o:V)(x:Nm)(v:V):Option J:=o.JL.bind λp=>if ok p.1.1 x then(rZ m[p.1.2]?).bind λl=>if l.1.length<100000 then aa (m.set p.1.2<|.aA<|putD x v l.1) else ag else ag
def qg(m:J)(o:V)(lo hi:La)(v:V):Option J:=o.Ff.bind λj=>v.Fc.bind λb=>(UE m[j.1]?).bind λl=>(ie lo).bind λlo=>lo.bind λlo=>(ie hi).bind λhi=>hi.bind λhi=>if lo<=hi/\hi<=l.1.length/\b.1.length=hi-lo/\l.1.length<100000 then aa (m.set j.1<|.bar<|l.1.take lo++b.1++l.1.drop hi) else ag
noncomputable def UJ(v:V):Option mV:=v.Fe.map (·.1)
mutual
noncomputable def mm(e:Env)(m:J)(v:V):T->R Env|.nm k=>if k<e.length then .ok (e.set k<|.val v) m else .H|.attr o x=>(bI ok κ e m o).bind λu m=>R.opt (setAttr ok m u x v) λm=>.ok e m|.sub o i=>(bI ok κ e m o).bind λu m=>(bI ok κ e m i).bind λj m=>R.opt (Jl m u j v) λm=>.ok e m|.eY o lo B=>(bI ok κ e m o).bind λu m=>(nF ok κ e m lo).bind λlo m=>(nF ok κ e m B).bind λB m=>R.opt (qg m u lo B v) λm=>.ok e m|.tup E=>R.opt (UJ v) λM=>if M.length=E.length then xW e m M E else .H
noncomputable def xW(e:Env)(m:J)(vs:mV):List T->R Env|[]=>.ok e m|t::B=>R.opt vs.head? λv=>R.nx (mm e m v t) λe m=>xW e m vs.tail B
end
noncomputable def ef{α:Type}(e:Env)(x:R α)(f:α->J->Fl):Fl:=match x with|.ok v m=>f v m|.exc y m=>.ex y e m|.H=>.H
noncomputable def Fl.opt{α:Type}(o:Option α)(f:α->Fl):Fl:=match o with|some a=>f a|none=>.H
noncomputable def Fl.yG{α:Type}(x:R α)(f:α->J->Fl):Fl:=match x with|.ok v m=>f v m|_=>.H
noncomputable def Fl.turn(x:Fl)(f:Env->J->Fl):Fl:=match x with|.nx e m=>f e m|.br e m=>.nx e m|x=>x
noncomputable def Fl.vn(x:Fl)(f:Env->J->Fl):Fl:=match x with|.nx e m=>f e m|.br e m=>.nx e m|.rt v m=>.rt v m|_=>.H
noncomputable def Fl.seq(x:Fl)(f:Env->J->Fl):Fl:=match x with|.nx e m=>f e m|x=>x
noncomputable def bF(a b:J->Fl)(v:V)(m:J):Fl:=match v with|.bool ae=>a m|.bool aq=>b m|_=>.H
noncomputable def ES(aQ:Env->J->V->R Env)(body:Env->J->Fl)(a:V)(kd:Bool)(n:Nat):Nat->Env->J->Fl|0,e,m=>Fl.opt (xU m a kd n) λZ=>.nx e m|r+1,e,m=>Fl.opt (xU m a kd n) λl=>Fl.opt l[n-(r+1)]? λv=>Fl.yG (aQ e m v) λe m=>Fl.turn (body e m) λe m=>ES aQ body a kd n r e m
noncomputable def D4(test:Env->J->R V)(body:Env->J->Fl):Nat->Env->J->Fl|0,_,_=>.H|r+1,e,m=>Fl.yG (test e m) (bF (λm=>Fl.vn (body e m) λe m=>D4 test body r e m) λm=>.nx e m)
noncomputable def An:Nm:=[77,105,115,117,115,101,100]
noncomputable def rJ:V:=.str [102,97,117,108,116]
mutual
noncomputable def sf(e:Env)(m:J):S->Fl
 |.expr a=>ef e (bI ok κ e m a) λv m=>Fl.opt v.rO λZ=>.nx e m
 |.aQ t a=>ef e (bI ok κ e m a) λv m=>ef e (mm ok κ e m v t) λe m=>.nx e m
 |.tX k a=>Fl.opt (Sl.get e k) λB=>ef e (bI ok κ e m a) λv m=>Fl.opt (t5 B v) λr=>if k<e.length then .nx (e.set k<|.val r) m else .H
 |.tY a x b=>ef e (bI ok κ e m a) λu m=>Fl.opt (xV ok m u x) λB=>ef e (bI ok κ e m b) λv m=>Fl.opt (t5 B v) λr=>Fl.opt (setAttr ok m u x r) λm=>.nx e m
 |.ifs t a b=>ef e (bI ok κ e m t) (bF (λm=>eC e m a) λm=>eC e m b)
 |.dN t a b=>ef e (bI ok κ e m a) λv m=>Fl.opt (ei m v) λl=>ES (λe m v=>mm ok κ e m v t) (λe m=>eC e m b) v (d9 m v) l.length l.length e m
 |.uY t b=>D4 (λe m=>bI ok κ e m t) (λe m=>eC e m b) 1000 e m
 |.ret ag=>.rt .none m
 |.ret (aa a)=>ef e (bI ok κ e m a) λv m=>.rt v m
 |.brk=>.br e m
 |.pass=>.nx e m
 |.raise a=>ef e (bI ok κ e m a) λv m=>Fl.opt v.oJ λx=>.ex x.1 e m
 |.tZ b E M=>match eC e m b with
  |.ex why e m=>if E<e.length/\M<e.length then .nx ((e.set M<|.val<|.tup [rJ,.str why]).set E .un) m else .H
  |x=>x
 |.H=>.H
noncomputable def eC(e:Env)(m:J):List S->Fl
 |[]=>.nx e m
 |s::r=>Fl.seq (sf e m s) λe m=>eC e m r
end
end
structure Fn where
 iU:Nat
 eD:List V
 locs:Nat
 body:List S
inductive Gl where|fn(f:Fn)|cls(init:Fn)
noncomputable def Gl.ctorIdx(t:Gl):Nat:=Gl.casesOn t (λZ=>0) λZ=>1
def hH(ok:Nm->Nm->Bool)(κ:i3)(f:Fn)(l:mV)(m:J):R V:=
 if l.length<=f.iU/\f.iU-l.length<=f.eD.length then
  match eC ok κ ((l++f.eD.drop (f.eD.length-(f.iU-l.length))).map Sl.val++gQ f.locs .un) m f.body with
  |.nx _ m=>.ok .none m
  |.rt v m=>.ok v m
  |.ex y _ m=>.exc y m
  |_=>.H
 else .H
noncomputable def eW(ok:Nm->Nm->Bool)(a:Nm->Option Gl):Nat->i3
 |0=>λZ Z Z=>.H
 |n+1=>λx l m=>match a x with
  |some (.fn f)=>hH ok (eW ok a n) f l m
  |some (.cls f)=>match hH ok (eW ok a n) f (.inst x m.length::l) (m++[.aA []]) with
   |.ok .none B=>.ok (.inst x m.length) B
   |.exc y B=>.exc y B
   |_=>.H
  |none=>.H
end
section
open PySem PySem.Calls PySem.W PyProof.Rows
structure Wd(C:Cx)(F:Fz):Prop where
 g:∀h:eM,(∀a o,F a=aa o->h.get? a=aa o)->h.Ns mainGlobals C.mg
 b:∀h:eM,(∀a o,F a=aa o->h.get? a=aa o)->h.Ns builtinsNs C.mb
 lim:∀h:eM,(∀a o,F a=aa o->h.get? a=aa o)->h.NoLimit
 k:∀h:eM,(∀a o,F a=aa o->h.get? a=aa o)->C.K.In h
 bt:∀x:Str,x≠"__name__"->C.mb x=bootBuiltins x
theorem Wd.mono(W:Wd C F)(h:Le F c):Wd C c:=
 ⟨λx k=>W.g x λa o e=>k a o<|h a o e,λx k=>W.b x λa o e=>k a o<|h a o e,λx k=>W.lim x λa o e=>k a o<|h a o e,λx k=>W.k x λa o e=>k a o<|h a o e,W.bt⟩
set_option genCtorIdx true in
structure FC where
 bc:az
 cN:Fz
 cy:List aH
 p:gA
 ns:List Str
 ex:List (aH×Obj)
 ro:Bool
 out:List gA
noncomputable def FC.put(K:FC)(D:aH)(o:Obj):FC:={K with ex:=(D,o)::K.ex}
noncomputable def FC.all(K:FC):List gA:=if K.ro=ae then K.out else K.p::K.out
noncomputable def jR(l:List gA):lk:=l.filterMap (·.frame)
noncomputable def Frs(h:eM)(F:Fz)(ι:lk)(l:List gA):Prop:=
 ∀e∈l,e.scope.kind≠.module/\∃L o,e.frame=aa L/\h.get? L=aa o/\(∃B n,o.data=.dict B n)/\F L=ag/\L∉ι
theorem Frs.place(x:Frs h F ι l)(ha:a∈jR l):∃o,h.get? a=aa o/\(∃es n,o.data=.dict es n)/\F a=ag/\a∉ι:=by refine bo (List.mem_filterMap.mp ha) λe E B=>?_;obtain⟨_,L,o,J,M⟩:=x e E;rw[J] at B;(have O:=bf B;subst O);exact⟨o,M⟩
inductive ig(C:Cx)(bc:az)(F:Fz)(ι:List aH)(h:eM):Option ar->Sl->Prop where|un{v:Option ar}:ig C bc F ι h v .un|val{v:ar}{d:V}(r:Rl C F ι v d):ig C bc F ι h (aa v) (.val d)|own{a:aH}{ob:Obj}{o:O}(P:Pv bc F ι a)(e:h.get? a=aa ob)(r:di C F ι ob o):ig C bc F ι h (aa<|.ref a) (.own o)
noncomputable def rR(env:Env)(k:Nat):Prop:=∃o,env[k]?=aa (.own o)
structure Fm(C:Cx)(K:FC)(F:Fz)(ι:List aH)(env:Env)(h:eM)(ml:Str->Option ar):Prop where
 ns:h.Ns K.p.locals ml
 pv:Pv K.bc F ι K.p.locals
 ba:∀(k:Nat)(x:Str)(sl:Sl),K.ns[k]?=aa x->env[k]?=aa sl->K.p.kindOf x=aa .local ->ig C K.bc F ι h (ml x) sl
 ij:K.ro=aq->∀(k:Nat)(x:Str)(sl:Sl),K.ns[k]?=aa x->env[k]?=aa sl->K.p.kindOf x=aa .cell->(∃c v,K.p.cells.lookup x=aa c/\h.IsCell c v/\ig C K.bc F ι h v sl/\Pv K.bc F ι c)/\∀o,sl≠.own o
 qG:∀(k:Nat)(x:Str)(sl:Sl),K.ns[k]?=aa x->env[k]?=aa sl->K.p.kindOf x=aa .free\/(K.p.kindOf x=aa .cell/\K.ro=ae)->sl=.un\/∃c ob v d,K.p.cells.lookup x=aa c/\K.bc.heap.get? c=aa ob/\ob.data=.cell (aa v)/\c∉K.cy/\sl=.val d/\Rl C F ι v d
 i4:∀(k:Nat)(x:Str)(sl:Sl),K.ns[k]?=aa x->env[k]?=aa sl->K.p.kindOf x=aa .local \/K.p.kindOf x=aa .cell\/K.p.kindOf x=aa .free
 oX:∀(x y)(c),K.p.cells.lookup x=aa c->K.p.cells.lookup y=aa c->x=y
 one:∀(k j)(x y)(a),K.ns[k]?=aa x->K.ns[j]?=aa y->rR env k->rR env j->ml x=aa (.ref a)->ml y=aa (.ref a)->k=j
 mD:∀(k)(x),K.ns[k]?=aa x->rR env k->K.p.kindOf x=aa .local /\ml x≠aa (.ref K.p.locals)
 ex:∀a o,(a,o)∈K.ex->Pv K.bc F ι a/\h.get? a=aa o/\a≠K.p.locals/\(∀(k)(x),K.ns[k]?=aa x->rR env k->ml x≠aa (.ref a))/\∀(k)(x)(c),K.ns[k]?=aa x->k<env.length->K.p.kindOf x=aa .cell->K.p.cells.lookup x=aa c->K.ro=aq->c≠a
 jf:(K.ex.map (·.1)).Nodup
structure Mk(K:FC):Prop where
 kind:K.p.scope.kind=.function
 dB:K.p.globals=mainGlobals
 blt:K.p.builtins=builtinsNs
 nd:K.ns.Nodup
structure FS(C:Cx)(K:FC)(F:Fz)(ι:List aH)(m:J)(env:Env)(s:az):Prop where
 st:St C K.bc K.cN K.cy F ι m s
 fm:∃ml,Fm C K F ι env s.heap ml
 wd:Wd C F
section
variable{C:Cx}{K:FC}{F F':Fz}{ι av:lk}{m m':J}{env:Env}{s s':az}
theorem ig.ET(hF:Le F F')(dK:Pre ι av)
  (hk:∀a ob,(∃o,sl=.own o)->v=aa (.ref a)->Pv bc F ι a->h.get? a=aa ob->h'.get? a=aa ob/\Pv bc F' av a)(x:ig C bc F ι h v sl):ig C bc F' av h' v sl:=by
 cases x with|un=>exact .un|val r=>exact .val (r.mono hF dK)|own P e r=>refine aW (hk _ _ ⟨_,rfl⟩ rfl P e) λm s=>?_;exact .own s m<|r.mono hF dK
theorem Fm.JO(hF:Le F F')(dK:Pre ι av)(hk:∀a ob,a≠K.p.locals->Pv K.bc F ι a->h.get? a=aa ob->h'.get? a=aa ob/\Pv K.bc F' av a)
  (hl:∀ob,h.get? K.p.locals=aa ob->(∃sl,h'.get? K.p.locals=aa {ob with slots:=sl})/\Pv K.bc F' av K.p.locals)(x:Fm C K F ι env h i):Fm C K F' av env h' i:=by
 refine jQ (id x.ns) λG j l f g n r=>aW (hl _ f) λs T=>bu s λsl V=>⟨ee _ j l V g n r,T,λk y sl E J M=>(x.ba k y sl E J M).ET hF dK λa ob Y t P e=>?_,λu k y sl E J M=>?_,λk y sl E J M=>?_,x.i4,x.oX,x.one,x.mD,λa o e=>?_,x.jf⟩
 ·refine bu Y λo s=>?_;subst s;exact hk a ob (λq=>(x.mD k y E ⟨o,J⟩).2 (by rw[t,q])) P e
 ·refine aW (x.ij u k y sl E J M) λs no=>gx s λc v O w R S=>bo w λz B m=>?_;refine aW (hk _ _ (λq=>by rw[q,f] at B;cases B;rw[g] at m;cases m) S B) λA b=>?_;exact⟨jP c v O (i12 z A m) (R.ET hF dK λa ob Y Z Z Z=>(by refine bu Y λo s=>?_;subst s;exact aT rfl (no o))) b,no⟩
 ·refine bZ (x.qG k y sl E J M) (λh=>?_) λD=>iG D λc ob v d O B m R S q6=>?_
  ·exact .inl h
  ·exact .inr<|qD c ob v d O B m R S<|q6.mono hF dK
 ·exact mB (x.ex a o e) λO B m q6=>aW (hk _ _ m O B) λR S=>lG S R m q6
theorem Fm.move(hF:Le F F')(dK:Pre ι av)(hk:∀a ob,Pv K.bc F ι a->h.get? a=aa ob->h'.get? a=aa ob/\Pv K.bc F' av a)
  (x:Fm C K F ι env h b):Fm C K F' av env h' b:=
 x.JO hF dK (λa ob Z P e=>hk a ob P e) λob e=>⟨⟨ob.slots,(hk _ _ x.pv e).1⟩,(hk _ _ x.pv e).2⟩
theorem FS.after(x:FS C K F ι m env s)(T:St C s F ι F' av m' s'):FS C K F' av m' env s':=bu x.fm λB E=>⟨x.st.trans T,⟨B,E.move T.f0 T.i0 λa J P e=>T.Jj P e⟩,x.wd.mono T.f0⟩
theorem FS.tok(x:FS C K F ι m env s)(t:Nat):FS C K F ι m env {s with toks:=t}:=⟨x.st.tok t,x.fm,x.wd⟩
theorem FS.grow(x:FS C K F ι m env s)(hk:∀b o,s.heap.get? b=aa o->h'.get? b=aa o):FS C K F ι m env {s with heap:=h',toks:=t}:=bu x.fm λB E=>⟨x.st.grow hk,⟨B,E.move (.refl F) (.refl ι) λa J P e=>⟨hk _ _ e,P⟩⟩,x.wd⟩
theorem FS.new(x:FS C K F ι m env s)(hf:o.isFreed=aq:=by rfl):
  FS C K (F.put s.heap.objs.size o) ι m env {s with heap:=s.heap.push o}/\Le F (F.put s.heap.objs.size o):=by
 have O:=rn s.heap;have P:=x.st.jz O;have g:FS C K F ι m env {s with heap:=s.heap.push o}:=x.grow (t:=s.toks) λb k e=>eT _ e;have T:(s.heap.push o).get? s.heap.objs.size=aa o:=mT _ hf;refine bu g.fm λR V=>?_;have B:Le F (F.put s.heap.objs.size o):=.put P.fr;refine⟨⟨g.st.freeze P T,⟨R,(bu x.fm λY uj=>?_)⟩,x.wd.mono B⟩,B⟩;have E:∀a J,Pv K.bc F ι a->s.heap.get? a=aa J->(s.heap.push o).get? a=aa J/\Pv K.bc (F.put s.heap.objs.size o) ι a:=λa J Q e=>⟨eT _ e,Q.new,by unfold Fz.put;rw[aB (λ(q:a=_)=>by rw[q,O] at e;exact bk e)];exact Q.fr,Q.ni⟩
 have:R=Y:=by refine jQ V.ns λl c n M d Z f=>jQ uj.ns λp r u h b2 Z i=>?_;have S:=eT o h;replace M:=(show({s with heap:=s.heap.push o}:az).heap=s.heap.push o from rfl)▸M;rw[M] at S;(have j:=bf S;subst j);rw[d] at b2;cases b2;funext y;rw[<-f ..,<-i ..]
 exact rwl this<|uj.move B (.refl ι) E
theorem FS.xX(x:FS C K F ι m env s):(s.heap.objs.size==sysModules)=aq:=by refine vL (x.wd.g _ x.st.fz) λo Z Z h Z=>?_;have:=i7 h;exact beq_eq_false_iff_ne.mpr λe=>by rw[e] at this;exact aT this<|dc rfl
theorem FS.Fh(x:FS C K F ι m env s)(hr:di C F ι ob o):
  FS C K F (ι++[s.heap.objs.size]) (m++[o]) env {s with heap:=s.heap.push ob}/\Pre ι (ι++[s.heap.objs.size]):=by
 have B:=rn s.heap;have P:=x.st.jz B;have E:=Pre.append ι [s.heap.objs.size];have g:FS C K F ι m env {s with heap:=s.heap.push ob}:=x.grow (t:=s.toks) λb S e=>eT _ e;have J:(s.heap.push ob).get? s.heap.objs.size=aa ob:=mT _ hr.ac2;refine bu x.fm λM O=>⟨⟨g.st.Eh P J hr x.xX,⟨M,O.move (.refl F) E λa T Q e=>⟨eT _ e,Q.new,Q.fr,λR=>?_⟩⟩,x.wd⟩,E⟩;refine bZ (List.mem_append.mp R) (λq=>?_) λq=>?_
 ·exact Q.ni q
 ·rw[GL] at q;rw[q,B] at e;exact bk e
theorem FS.upd(x:FS C K F ι m env s)(hi:ι[i]?=aa a)(hs:dp a s.heap h')(ho:h'.get? a=aa ob)(hr:di C F ι ob o):
  FS C K F ι (m.set i o) env {s with heap:=h',toks:=t}:=by
 exact bu x.fm λB E=>⟨x.st.upd hi hs ho hr,⟨B,E.move (.refl F) (.refl ι) λb J P e=>⟨hs b J (λ(q:b=a)=>P.ni<|rwl q<|get_mem hi) e,P⟩⟩,x.wd⟩
end
structure cI(n:Nat)(A:bL)(l:List gA):Prop where
 hd:A.handled=ag
 FU:A.depth+8*n+40<600
 LC:A.units+40*n+200<9000
 fx:A.frames=aa l
structure FX(C:Cx)(K:FC)(F:Fz)(ι:List aH)(m:J)(env:Env)(s:az):Prop where
 st:kD C (jR K.out) K.bc K.cN K.cy F ι m s
 fm:∃ml,Fm C K F ι env s.heap ml
 wd:Wd C F
noncomputable def TX(C:Cx)(F:Fz)(d:aH)(why:Nm):Prop:=∃B E n,F d=aa B/\B.ExactDict/\B.data=.dict E n/\cn C F [] E.toList [([119,104,121],.str why),([97,116],.int<|-1)]/\(d==sysModules)=aq
noncomputable def Kq(a:Array ar)(b:List (aH×Obj)):Prop:=
 (a[1]?=aa .none/\b=[])\/∃T B E,a[1]?=aa (.ref T)/\B.data=.fields E/\3<E.size/\b=[(T,B)]
structure jb(C:Cx)(F:Fz)(ox:Obj)(eJ:List (aH×Obj))(why:Nm):Prop where
 cls:∃c,ox.cls=.ref c/\C.mg (Nm.toStr An)=aa (.ref c)
 dict:∃d,ox.dict=aa d/\TX C F d why
 data:∃fs,ox.data=.fields fs/\Kq fs eJ
noncomputable def FC.hU(K:FC)(l:List (aH×Obj)):FC:={K with ex:=l++K.ex}
noncomputable def sj(C:Cx)(K:FC)(F:Fz)(ι:lk)(m:J)(env:Env)(s:az)(e:ar)(why:Nm):Prop:=
 ∃x B E,e=.ref x/\jb C F B E why/\FX C (K.hU ((x,B)::E)) F ι m env s
noncomputable def UK(C:Cx)(bc:az)(F:Fz)(ι:lk)(h:eM)(e:ar)(why:Nm):Prop:=
 ∃x B E,e=.ref x/\jb C F B E why/\(((x,B)::E).map (·.1)).Nodup/\∀a o,(a,o)∈(x,B)::E->Pv bc F ι a/\h.get? a=aa o
section
variable{α β:Type}
inductive cg(C:Cx)(K:FC)(F:Fz)(ι:List aH)(env:Env)(r:R α)(rel:Fz->List aH->β->α->Prop)(v:β)(s':az):Prop where|i(d:α)(m':J)(F':Fz)(av:List aH)(e:r=.ok d m')(h1:Le F F')(h2:Pre ι av)(x:FS C K F' av m' env s')(y:rel F' av v d):cg C K F ι env r rel v s'
inductive kG(C:Cx)(K:FC)(F:Fz)(ι:List aH)(env:Env)(r:R α)(e:ar)(s':az):Prop where|i(why:Nm)(m':J)(F':Fz)(av:List aH)(q:r=.exc why m')(h1:Le F F')(h2:Pre ι av)(x:sj C K F' av m' env s' e why):kG C K F ι env r e s'
end
section
variable{C:Cx}{K:FC}{F F':Fz}{ι av:lk}{m m':J}{env:Env}{s s':az}
theorem Fm.sub(f:Fm C K F ι env h b)(hl:∀a o,(a,o)∈l->(a,o)∈K.ex)(hn:(l.map (·.1)).Nodup):Fm C {K with ex:=l} F ι env h b:=
 ⟨f.ns,f.pv,f.ba,f.ij,f.qG,f.i4,f.oX,f.one,f.mD,λa o e=>f.ex a o<|hl a o e,hn⟩
theorem FX.sub(x:FX C K F ι m env s)(hl:∀a o,(a,o)∈l->(a,o)∈K.ex)(hn:(l.map (·.1)).Nodup):FX C {K with ex:=l} F ι m env s:=bu x.fm λB f=>⟨x.st,⟨B,f.sub hl hn⟩,x.wd⟩
theorem FX.am8(x:FX C K F ι m env s)(h:K.out=[]):FS C K F ι m env s:=by refine⟨?_,x.fm,x.wd⟩;have:=x.st;replace this:=(h)▸this;exact this.am6
theorem sj.drop(h:sj C (K.put D o) F ι m env s e why):sj C K F ι m env s e why:=by
 refine nE h λx B E M O J=>BP x B E M O (bu J.fm λP f=>?_);have R:=f.jf;refine⟨J.st,⟨P,Fm.sub (K:=(K.put D o).hU ((x,B)::E)) (l:=((x,B)::E)++K.ex) f (λa q S=>?_) ?_⟩,J.wd⟩
 ·refine bZ (List.mem_append.mp S) (λh=>?_) λh=>?_
  ·exact MC _ h
  ·exact MD _<|dT _ h
 ·exact List.Nodup.sublist (ME _<|List.Sublist.append_left (List.sublist_cons_self _ _) _) R
end
section
variable{C:Cx}{K:FC}{F F':Fz}{ι av:lk}{m m':J}{env:Env}{s s':az}{A:bL}
variable{α β γ δ:Type}
theorem cg.back(h1:Le F F')(h2:Pre ι av)(x:cg C K F' av env r rel v s'):cg C K F ι env r rel v s':=
 x.casesOn λd m' m s e a b c y=>⟨d,m',m,s,e,h1.trans a,h2.trans b,c,y⟩
theorem kG.back(h1:Le F F')(h2:Pre ι av)(x:kG C K F' av env r v s'):kG C K F ι env r v s':=
 x.casesOn λd m' m s e a b c=>⟨d,m',m,s,e,h1.trans a,h2.trans b,c⟩
theorem cg.mk(e:r=.ok d m)(x:FS C K F ι m env s)(h:rel F ι v d):cg C K F ι env r rel v s:=
 ⟨d,m,F,ι,e,.refl F,.refl ι,x,h⟩
theorem cg.mk'(e:r=.ok d m)(h1:Le F F')(h2:Pre ι av)(x:FS C K F' av m env s)(h:rel F' av v d):cg C K F ι env r rel v s:=
 ⟨d,m,F',av,e,h1,h2,x,h⟩
theorem FS.dat(x:FS C K F ι m env s){i:Nat}(h:ι[i]?=aa a)(e:m[i]?=aa o):∃ob,s.heap.get? a=aa ob/\di C F ι ob o:=x.st.st i a o h e
theorem FS.len(x:FS C K F ι m env s){i:Nat}(h:ι[i]?=aa a):∃o,m[i]?=aa o:=by refine bu (List.getElem?_eq_some_iff.mp h) λA Z=>?_;exact⟨m[i]'(rws x.st.len A),cT _⟩
theorem xB{o:Obj}(h1:o.cls=c)(h2:o.data=d)(g:o.dict=ag/\o.slots=#[]):o={cls:=c,data:=d}:=by obtain⟨a,b,e,f⟩:=o;refine aW g λg m=>?_;dsimp only at h1 h2 g m;subst h1 h2 g m;rfl
noncomputable def VN(C:Cx)(F:Fz)(ι:lk)(s:az)(v:ar)(d:V):Prop:=match d with|.none=>v=.none|.bool b=>v=.bool b|.int i=>∃t,v=.int i t|.str x=>∃y t,v=.str y t/\aF y=x|.bb x=>∃y t,v=.bytes y t/\cq y=x|.tup l=>∃a m n,v=.ref a/\s.heap.get? a=aa {cls:=.type "tuple",data:=.seq m n}/\aU C F ι m.toList l|.lst l=>∃a m n,v=.ref a/\s.heap.get? a=aa {cls:=.type "list",data:=.seq m n}/\aU C F ι m.toList l|.aA l=>∃a o A n,v=.ref a/\s.heap.get? a=aa o/\o.ExactDict/\o.data=.dict A n/\cn C F ι A.toList l/\(a==sysModules)=aq|.bar l=>∃a o b,v=.ref a/\s.heap.get? a=aa o/\o.cls=.type "bytearray"/\o.data=.bytearray b 0/\l=cq b|.dW i j k=>∃a t u w,v=.ref a/\F a=aa {cls:=.type "range",data:=.fields #[.int i t,.int j u,.int k w]}|_=>True
theorem FS.view(x:FS C K F ι m env s){v:ar}(r:Rl C F ι v d):VN C F ι s v (rv m d):=by
 cases r with
 |none=>rfl
 |bool b=>rfl
 |int i t=>exact⟨t,rfl⟩
 |str x t=>exact iY x t rfl rfl
 |bb b t=>exact iY b t rfl rfl
 |tup A B E J h=>exact BP _ _ _ rfl (rws (xB B E J)<|x.st.fz _ _ A) h
 |lst A B E J h=>exact BP _ _ _ rfl (rws (xB B E J)<|x.st.fz _ _ A) h
 |aA A B E S T=>exact qD _ _ _ _ rfl (x.st.fz _ _ A) B E S T
 |bar A B E=>exact sd _ _ _ rfl (x.st.fz _ _ A) B E rfl
 |dW h=>exact⟨_,_,_,_,rfl,h⟩
 |ref h=>
  refine bu (x.len h) λo R=>bo (x.dat h R) λV A B=>?_;unfold rv;dsimp only;rw[R];cases B with
  |lst M O J P=>exact BP _ _ _ rfl (rws (xB M O J) A) P
  |aA M O P=>exact qD _ _ _ _ rfl A M O P (x.st.ns _<|get_mem h)
  |bW=>trivial
  |bar M O=>exact sd _ _ _ rfl A M O rfl
 |_=>trivial
theorem FS.Ej(x:FS C K F ι m env s)(r:Rl C F ι v d)(e:rv m d=a):VN C F ι s v a:=rws e<|x.view r
theorem HL(x:FS C K F ι m env s)(r:Rl C F ι v d)(e:rv m d=.lst l):∃a vs n,v=.ref a/\s.heap.get? a=aa {cls:=.type "list",data:=.seq vs n}/\aU C F ι vs.toList l:=x.Ej r e
theorem uK(x:FS C K F ι m env s)(r:Rl C F ι v d)(e:rv m d=.lst l){G:Prop}(kk:∀a vs,v=.ref a->s.heap.IsList a vs->aU C F ι vs.toList l->G):G:=nE (HL x r e) λa vs n A B E=>kk a vs A ⟨_,B,rfl,n,rfl⟩ E
theorem HM(x:FS C K F ι m env s)(r:Rl C F ι v d)(e:rv m d=.tup l):∃a vs n,v=.ref a/\s.heap.get? a=aa {cls:=.type "tuple",data:=.seq vs n}/\aU C F ι vs.toList l:=x.Ej r e
theorem xi(x:FS C K F ι m env s)(r:Rl C F ι v d)(e:rv m d=.tup l){G:Prop}(kk:∀a vs,v=.ref a->IsTup s.heap a vs->aU C F ι vs.toList l->G):G:=nE (HM x r e) λa vs n A B E=>kk a vs A ⟨_,B,rfl,n,rfl⟩ E
theorem Ih(x:FS C K F ι m env s)(r:Rl C F ι v d)(e:rv m d=.aA l):∃a o es n,v=.ref a/\s.heap.get? a=aa o/\o.ExactDict/\o.data=.dict es n/\cn C F ι es.toList l/\(a==sysModules)=aq:=x.Ej r e
theorem DC(x:FS C K F ι m env s)(r:Rl C F ι v d)(e:rv m d=.bar l){G:Prop}(kk:∀a o b,v=.ref a->s.heap.get? a=aa o->o.cls=.type "bytearray"->o.data=.bytearray b 0->l=cq b->G):G:=K8 (x.Ej r e) kk
noncomputable def SH:V->Bool|.lst _|.aA _|.bar _=>aq|_=>ae
noncomputable def FV(i:Nat)(o:Option O):V:=match o with|some (.lst l)=>.lst l|some (.aA l)=>.aA l|some (.bar b)=>.bar b|_=>.ref i
theorem Ao(e:rv m d=a)(h:SH a=ae):d=a:=by
 subst e;induction d using V.casesOn with
 |ref j=>
  change SH (FV j m[j]?)=ae at h;refine(?_:_=FV j m[j]?);generalize m[j]?=o at h;induction o using aO with
  |none=>rfl
  |some o=>induction o using O.casesOn with
   |bW l=>rfl
   |_=>exact iI h
 |_=>rfl
theorem AJ(e:rv m d=.int i):d=.int i:=Ao e rfl
theorem AK(e:rv m d=.str i):d=.str i:=Ao e rfl
theorem tF(e:rv m d=.bb i):d=.bb i:=Ao e rfl
theorem SI(e:rv m d=.ref k):d=.ref k:=Ao e rfl
theorem tv(r:Rl C F ι v .none):v=.none:=r.inv
theorem Ek(r:Rl C F ι v (.int i)):∃t,v=.int i t:=r.inv
theorem fB(r:Rl C F ι v (.int i)){G:Prop}(kk:∀t,v=.int i t->G):G:=bu (Ek r) kk
theorem om(r:Rl C F ι v (.bool i)):v=.bool i:=r.inv
theorem SJ(r:Rl C F ι v (.str x)):∃y t,v=.str y t/\aF y=x:=r.inv
theorem tw(r:Rl C F ι v (.str x)){G:Prop}(kk:∀y t,v=.str y t->aF y=x->G):G:=fw (SJ r) kk
theorem SK(r:Rl C F ι v (.bb x)):∃y t,v=.bytes y t/\cq y=x:=r.inv
theorem rE(r:Rl C F ι v (.bb x)){G:Prop}(kk:∀y t,v=.bytes y t->cq y=x->G):G:=fw (SK r) kk
end
inductive nu(C:Cx)(s:az)(F:Fz)(ι:List aH)(fr:List gA)(x:R V)(r:gP)(s':az):Prop|ok(v:ar)(d:V)(m':J)(F':Fz)(av:List aH)(h1:r=.ok (.ret v))(h2:x=.ok d m')(st:St C s F ι F' av m' s')(g:Rl C F' av v d):nu C s F ι fr x r s'|ex(e:ar)(why:Nm)(m':J)(F':Fz)(av:List aH)(h1:r=.error e)(h2:x=.exc why m')(st:kD C (jR fr) s F ι F' av m' s')(fl:UK C s F' av s'.heap e why):nu C s F ι fr x r s'
noncomputable def EU(C:Cx)(κ:i3)(n:Nat):Prop:=
 ∀(x)(l)(m)(F)(ι)(s)(vals)(A)(f)(B),
  cI n A B->Frs s.heap F ι B->Wd C F->St C s F ι F ι m s->aU C F ι vals l->C.mg (Nm.toStr x)=aa f->κ x l m≠.H->
  cM C.md A (.call f ⟨vals,[]⟩) (nu C s F ι B<|κ x l m) s
set_option genCtorIdx true in
structure Fx where
 C:Cx
 ok:Nm->Nm->Bool
 κ:i3
 n:Nat
 ns:List Str
 sc:d5
 gl:Nm->Bool
 ro:Bool
 top:Bool
noncomputable def Fx.lv(X:Fx):Nat:=X.n
noncomputable def gG:BI->Str|.len=>"len"|.range=>"range"|.sum=>"sum"|.min=>"min"|.max=>"max"|.sorted=>"sorted"|.bytes=>"bytes"|.bytearray=>"bytearray"|.tuple=>"tuple"|.isinstance=>"isinstance"
noncomputable def ym:BI->ar|.len=>.builtin "len"|.range=>.type "range"|.sum=>.builtin "sum"|.min=>.builtin "min"|.max=>.builtin "max"|.sorted=>.builtin "sorted"|.bytes=>.type "bytes"|.bytearray=>.type "bytearray"|.tuple=>.type "tuple"|.isinstance=>.builtin "isinstance"
structure Fx.Wf(X:Fx):Prop where
 VO:EU X.C X.κ X.n
 gl:∀x,X.gl (aF x)=ae->∃a,X.C.mg x=aa (.ref a)/\keepIn X.C.K (.ref a)=ae
 bi:∀b,X.C.mg (gG b)=ag
structure Fx.Of(X:Fx)(K:FC):Prop where
 make:Mk K
 ns:K.ns=X.ns
 sc:K.p.scope=X.sc
 ro:K.ro=X.ro
 fr:K.ro=aq->K.p.frame=aa K.p.locals
 fx:Frs K.bc.heap K.cN K.cy K.out
 top:X.top=ae->K.out=[]
theorem Fx.Of.put{X:Fx}{K:FC}(O:X.Of K)(D)(o):X.Of (K.put D o):=⟨⟨O.make.kind,O.make.dB,O.make.blt,O.make.nd⟩,O.ns,O.sc,O.ro,O.fr,O.fx,O.top⟩
section
variable{X:Fx}{K:FC}{F F':Fz}{ι av:lk}{m m':J}{env:Env}{s s':az}
theorem Frs.keep(h:Frs bc.heap cN cy l)(S:St C bc cN cy F ι m s):Frs s.heap F ι l:=λe J=>by
 refine gl λV K=>?_;obtain⟨k,L,o,M,B,O,P,E⟩:=h e J;refine K ?_;refine⟨k,L,o,M,S.kp _ _ B E,O,?_,λR=>?_⟩
 ·induction q:F L using aO with|none=>rfl|some T=>
   rcases S.fn L T q with h'|h'
   ·rw[P] at h';exact bk h'
   ·rw[B] at h';exact iZ h'
 ·rcases S.gY L R with h'|h'
  ·exact E h'
  ·rw[B] at h';exact iZ h'
set_option tactic.hygienic true in
theorem FS.fx(x:FS X.C K F ι m env s)(O:X.Of K):Frs s.heap F ι K.all:=by
 have B:=O.fx.keep x.st;unfold FC.all;split
 ·exact B
 ·rename_i E;intro e he;rcases sS.mp he with rfl|he
  ·refine gl λV J=>?_;refine bu x.fm λY f=>?_;refine nE f.ns λM P R S T Z=>?_;refine J ?_;exact⟨by rw[O.make.kind];decide,_,M,O.fr (by simpa using E),S,gM P R T,f.pv.fr,f.pv.ni⟩
  ·exact B e he
set_option tactic.hygienic true in
theorem D5(O:X.Of K)(h:a∈jR K.all):(a=K.p.locals/\K.ro=aq)\/a∈jR K.out:=by
 unfold FC.all at h;split at h
 ·exact .inr h
 ·rename_i m;have m:K.ro=aq:=by simpa using m
  unfold jR at h;rw[aof,O.fr m] at h;rcases sS.mp h with h|h
  ·exact .inl ⟨h,m⟩
  ·exact .inr h
theorem Fm.Ks(d:Fm C K F ι env h i)(f:Fm C K F' av env h' i)(hl:∀a o,(a,o)∈l->Pv K.bc F' av a/\h'.get? a=aa o/\h.get? a=ag)(hn:(l.map (·.1)).Nodup):Fm C (K.hU l) F' av env h' i:=by
 refine⟨f.ns,f.pv,f.ba,f.ij,f.qG,f.i4,f.oX,f.one,f.mD,λa o hm=>?_,?_⟩
 ·rcases List.mem_append.mp hm with hm|hm
  ·refine fW (hl a o hm) λO P m=>vJ O P (λe=>?_) (λk y s R e=>?_) λk y c s S T hl V e=>?_
   ·refine vL d.ns λw Z Z X Z=>?_;rw[e,show(K.hU l).p=K.p from rfl,X] at m;exact iZ m
   ·refine bu R λY B=>?_;have:=d.ba k y _ s B (d.mD k y s ⟨Y,B⟩).1;replace this:=(e)▸this;cases this with|own _ e _=>rw[m] at e;exact bk e
   ·refine aW (d.ij V k y _ s (cT S) T) λE Z=>?_;refine cP E λx v J j Z=>bo j λz M Z=>?_;rw[show K.p.cells.lookup y=aa c from hl] at J;(have n:=bf J;subst n);rw[e,m] at M;exact bk M
  ·exact f.ex a o hm
 ·refine(?_:((l++K.ex).map (·.1)).Nodup);rw[jo];refine List.nodup_append.mpr (cv hn f.jf λa B b r e=>?_);subst e;refine j8 B λp t E=>?_;subst E;refine j8 r λq u e=>?_;have g:=(d.ex q.1 q.2 u).2.1;rw[e,(hl p.1 p.2 t).2.2] at g;exact bk g
theorem FS.aiy(x:FS X.C K F ι m env s)(O:X.Of K)(T:kD X.C (jR K.all) s F ι F' av m' s')(h:UK X.C s F' av s'.heap e why):sj X.C K F' av m' env s' e why:=by
 refine jQ h λa R S V Y d i=>bu x.fm λj f=>?_;have E:∀a,a∈jR K.out->∃o,K.bc.heap.get? a=aa o:=λa k=>by refine bo (O.fx.place k) λo h Z=>?_;exact⟨o,h⟩
 have hpv:∀{b:aH},Pv K.bc F ι b->b∉jR K.out:=λP B=>by refine bu (E _ B) λo h=>?_;rw[P.new] at h;exact bk h
 have l:=f.JO T.f0 T.i0 (λb J n P e=>⟨T.kp b J e P.ni λB=>(D5 O B).elim (λq=>n q.1)<|hpv P,T.TV P e⟩) λJ e=>by
  refine⟨?_,T.TV f.pv e⟩;by_cases c:K.p.locals∈jR K.all
  ·exact T.kq _ _ e c
  ·exact⟨J.slots,T.kp _ _ e f.pv.ni c⟩
 refine⟨a,R,S,V,Y,x.st.SG T (λb M=>?_) λb M=>?_,⟨j,f.Ks l (λb o B=>?_) d⟩,x.wd.mono T.f0⟩
 ·refine uh (O.fx.place M) λo Z Z Z q=>?_;exact q
 ·rcases D5 O M with h|h
  ·exact .inr<|rwl h.1 f.pv.new
  ·exact .inl h
 ·exact aW (i b o B) λP g=>cv ⟨x.st.rI P.new,P.fr,P.ni⟩ g P.new
end
noncomputable def SE(X:Fx)(e:bj)(d:E):Prop:=
 ∀(K)(F)(ι)(m)(B)(s)(A),X.Of K->cI X.lv A K.all->FS X.C K F ι m B s->bI X.ok X.κ B m d≠.H->
  aD X.C.md A (eval e K.p) (cg X.C K F ι B (bI X.ok X.κ B m d)<|Rl X.C) (kG X.C K F ι B<|bI X.ok X.κ B m d) s
noncomputable def Bt(v:V)(m:J):R V:=match v with|.bool b=>.ok (.bool b) m|_=>.H
def fc(r:R V):R V:=R.bind r Bt
noncomputable def SB(X:Fx)(e:bj)(d:E):Prop:=
 ∀(K)(F)(ι)(m)(B)(s)(A),X.Of K->cI X.lv A K.all->FS X.C K F ι m B s->fc (bI X.ok X.κ B m d)≠.H->
  aD X.C.md A (isTrue e K.p<|eval e K.p) (cg X.C K F ι B (fc<|bI X.ok X.κ B m d) λZ Z b d=>d=.bool b) (kG X.C K F ι B<|fc<|bI X.ok X.κ B m d) s
section
variable{X:Fx}
theorem aiz{k pos}:SE X (.Constant (.int i) k pos) (.bU<|.int i):=λZ Z Z Z Z s Z Z Z x Z=>P.of<|wpAny_Constant_int<|.mk rfl (x.tok _)<|.int i s.toks
theorem afk{k pos}:SE X (.Constant .none k pos) (.bU .none):=λZ Z Z Z Z Z Z Z Z x Z=>by rw[WX ..];exact P.pure<|.mk rfl x .none
theorem afl{b k pos}:SE X (.Constant (.bool b) k pos) (.bU<|.bool b):=λZ Z Z Z Z Z Z Z Z x Z=>by rw[WX ..];exact P.pure<|.mk rfl x<|.bool b
theorem SM{k pos}:SE X (.Constant (.str y) k pos) (.bU<|.str<|aF y):=λZ Z Z Z Z s Z Z Z x Z=>P.of<|WY<|.mk rfl (x.tok _)<|.str y s.toks
theorem aiA{k pos}:SE X (.Constant (.bytes y) k pos) (.bU<|.bb<|y.map GI):=λK Z Z Z Z s A Z Z x Z=>by rw[WX ..];refine P.of ?_;refine(?_:wpAny _ _ (mkTextBytes y.toArray) _ _ s);unfold mkTextBytes;refine aI (m:=fresh)<|wpAny_fresh<|bE<|.mk rfl (x.tok _) ?_;have:=Rl.bb (C:=X.C) (F:=by assumption) (ι:=by assumption) y.toArray s.toks;simpa[cq] using this
end
section
variable{C:Cx}{K:FC}{F F':Fz}{ι av:lk}{m:J}{env:Env}{s s':az}{α β γ:Type}{r:R α}{rel:Fz->lk->β->α->Prop}{Q:β->az->Prop}{E E':Ar}{M:mS}{A:bL}
noncomputable def jg(C:Cx)(K:FC)(F:Fz)(ι:lk)(env:Env)(r:R α)(rel:Fz->lk->β->α->Prop)(Q:β->az->Prop):Prop:=∀v s',cg C K F ι env r rel v s'->Q v s'
noncomputable def eL(C:Cx)(K:FC)(F:Fz)(ι:lk)(env:Env)(r:R α)(E:Ar):Prop:=∀e s',kG C K F ι env r e s'->E e s'
theorem jg.self:jg C K F ι env r rel (cg C K F ι env r rel):=λZ Z y=>y
theorem eL.self:eL C K F ι env r (kG C K F ι env r):=λZ Z y=>y
theorem eL.up(h:eL C K F ι env r E)(h1:Le F F')(h2:Pre ι av):eL C K F' av env r E:=λe s y=>h e s<|y.back h1 h2
theorem jg.up(h:jg C K F ι env r rel Q)(h1:Le F F')(h2:Pre ι av):jg C K F' av env r rel Q:=λe s y=>h e s<|y.back h1 h2
theorem jg.at(h:jg C K F ι env r rel Q)(e:R.ok d m=r)(x:FS C K F ι m env s)(y:rel F ι v d):Q v s:=h v s<|.mk e.symm x y
theorem jg.at'(h:jg C K F ι env r rel Q)(e:R.ok d m=r)(h1:Le F F')(h2:Pre ι av)(x:FS C K F' av m env s')(y:rel F' av v d):Q v s':=h v s'<|.mk' e.symm h1 h2 x y
theorem afm(hr:R.bind x f=r)(hb:r≠.H):x≠.H:=λe=>hb (by rw[<-hr,e])
theorem cC{r:R γ}
  (h:x≠.H->aD M A t (cg C K F ι env x rel) (kG C K F ι env x) s)(hr:R.bind x f=r)(hb:r≠.H)(hE:eL C K F ι env r E)
  (k:∀v d m F' av s,f d m=r->Le F F'->Pre ι av->FS C K F' av m env s->rel F' av v d->Q v s):aD M A t Q E s:=
 P.mono (h<|afm hr hb) (λv s' B=>B.casesOn λd J F' av e O S T V=>k v d J F' av s' (hr▸rwl e rfl) O S T V)
  λe s' B=>B.casesOn λwhy J F' av Y O S T=>hE e s' ⟨why,J,F',av,hr▸rwl Y rfl,O,S,T⟩
theorem Ii(h:V.bool a=.bool b):a=b:=V.noConfusion h id
theorem lg[Decidable c]{y:α}(h:(if c then x else ag)=aa y){G:Prop}(kk:c->x=aa y->G):G:=by
 by_cases q:c
 ·exact kk q<|(aC q).symm.trans h
 ·exact bk<|(aB q).symm.trans h
noncomputable abbrev oR(o:La)(m:J):R V:=R.of m o
theorem SN{r:R V}:oR o m=r->r≠.H->∃u,o=aa u/\.ok u m=r:=by induction o using aO with|none=>exact λh s=>aT h.symm s|some u=>exact λh Z=>i12 u rfl h
theorem sk{o:La}{r:R V}{rel:Fz->lk->β->V->Prop}(hr:oR o m=r)(hb:r≠.H)(hQ:jg C K F ι env r rel Q)(k:∀u,o=aa u->wpAny M A t (cg C K F ι env (.ok u m) rel) E s):aD M A t Q E s:=
 (SN hr hb).elim λu e=>P.mono (P.of<|k u e.1) (rwl e.2 hQ) λZ Z y=>y
theorem Rk{r:R V}(hr:Bt d m=r)(hb:r≠.H):∃b,d=.bool b/\.ok (.bool b) m=r:=by induction d using V.casesOn with|bool b=>exact i12 b rfl hr|_=>exact aT hr.symm hb
theorem oi(hr:R.opt o f=r)(hb:r≠.H){G:Prop}(kk:∀a,o=aa a->f a=r->G):G:=by induction o using aO with|none=>exact aT hr.symm hb|some a=>exact kk a rfl hr
theorem D6(hr:R.nx x f=r)(hb:r≠.H){G:Prop}(kk:∀a m,x=.ok a m->f a m=r->G):G:=by induction x using R.casesOn with|ok a m=>exact kk a m rfl hr|_=>exact aT hr.symm hb
theorem n9{r:Fl}(hr:Fl.opt o f=r)(hb:r≠.H){G:Prop}(kk:∀a,o=aa a->f a=r->G):G:=by induction o using aO with|none=>exact aT hr.symm hb|some a=>exact kk a rfl hr
theorem Rm{r:Fl}(hr:Fl.yG x f=r)(hb:r≠.H):∃a m,x=.ok a m/\f a m=r:=by induction x using R.casesOn with|ok a m=>exact iY a m rfl hr|_=>exact aT hr.symm hb
theorem aiB(hr:bR a b v m=r)(hb:r≠.H):∃c,v=.bool c/\(bif c then a m else b m)=r:=by induction v using V.casesOn with|bool b=>exact i12 b rfl (b.casesOn (λh=>h) (λh=>h) hr)|_=>exact aT hr.symm hb
theorem aiC{r:Fl}(hr:bF a b v m=r)(hb:r≠.H):∃c,v=.bool c/\(bif c then a m else b m)=r:=by induction v using V.casesOn with|bool b=>exact i12 b rfl (b.casesOn (λh=>h) (λh=>h) hr)|_=>exact aT hr.symm hb
theorem SO:R.bind x (bR a b)=R.bind (fc x) (bR a b):=by induction x using R.casesOn with|ok v m=>induction v using V.casesOn<;>rfl|_=>rfl
@[elab_as_elim] theorem oq{G:ar->Prop}(r:Rl C F ι v (.int i))(k:∀t,G<|.int i t):G v:=(Ek r).elim λt e=>rwl e<|k t
@[elab_as_elim] theorem tx{G:ar->Prop}(r:Rl C F ι v (.str x))(k:∀y t,aF y=x->G (.str y t)):G v:=iX (SJ r) λy t e=>rwl e.1<|k y t e.2
@[elab_as_elim] theorem Ap{G:ar->Prop}(r:Rl C F ι v (.bb x))(k:∀y t,cq y=x->G (.bytes y t)):G v:=iX (SK r) λy t e=>rwl e.1<|k y t e.2
@[elab_as_elim] theorem HN{G:ar->Prop}(x:FS C K F ι m env s)(r:Rl C F ι v d)(e:rv m d=.tup l)(k:∀a vs,IsTup s.heap a vs->aU C F ι vs.toList l->G (.ref a)):G v:=xi x r e λa vs e A B=>rwl e<|k a vs A B
@[elab_as_elim] theorem xj{G:ar->Prop}(x:FS C K F ι m env s)(r:Rl C F ι v d)(e:rv m d=.lst l)(k:∀a vs,s.heap.IsList a vs->aU C F ι vs.toList l->G (.ref a)):G v:=uK x r e λa vs e A B=>rwl e<|k a vs A B
@[elab_as_elim] theorem HO{G:ar->Prop}(x:FS C K F ι m env s)(r:Rl C F ι v d)(e:rv m d=.aA l)(k:∀a o es n,s.heap.get? a=aa o->o.ExactDict->o.data=.dict es n->cn C F ι es.toList l->(a==sysModules)=aq->G (.ref a)):G v:=iG (Ih x r e) λa o es n e A B E J M=>rwl e<|k a o es n A B E J M
@[elab_as_elim] theorem HP{G:ar->Prop}(x:FS C K F ι m env s)(r:Rl C F ι v d)(e:rv m d=.bar l)(k:∀a o b,s.heap.get? a=aa o->o.cls=.type "bytearray"->o.data=.bytearray b 0->l=cq b->G (.ref a)):G v:=DC x r e λa o b e A B E J=>rwl e<|k a o b A B E J
theorem aU.size{vs:Array ar}(h:aU C F ι vs.toList ds):vs.size=ds.length:=rws (kX (xs:=vs)) h.length
theorem aU.Kt{vs:Array ar}(h:aU C F ι vs.toList ds){i:Nat}(e:ds[i]?=aa d):∃v,vs[i]?=aa v/\Rl C F ι v d:=rws (yX (xs:=vs))<|h.get e
end
section
variable{X:Fx}
theorem SE.intro (h:∀{K:FC}{F:Fz}{ι:lk}{m:J}{env:Env}{s:az}{A:bL}{r:R V}{Q:Ar}{E:Ar}(O:X.Of K)(a:cI X.lv A K.all)(x:FS X.C K F ι m env s)(hr:bI X.ok X.κ env m d=r)(hb:r≠.H)
  (hQ:jg X.C K F ι env r (Rl X.C) Q)(hE:eL X.C K F ι env r E),aD X.C.md A (eval e K.p) Q E s):SE X e d:=
 λZ Z Z Z Z Z Z O a x hb=>h O a x rfl hb .self .self
theorem SB.intro (h:∀{K:FC}{F:Fz}{ι:lk}{m:J}{env:Env}{s:az}{A:bL}{r:R V}{Q:Bool->az->Prop}{E:Ar}(O:X.Of K)(a:cI X.lv A K.all)(x:FS X.C K F ι m env s)(hr:fc (bI X.ok X.κ env m d)=r)(hb:r≠.H)
  (hQ:jg X.C K F ι env r (λZ Z b d=>d=.bool b) Q)(hE:eL X.C K F ι env r E),aD X.C.md A (isTrue e K.p<|eval e K.p) Q E s):SB X e d:=
 λZ Z Z Z Z Z Z O a x hb=>h O a x rfl hb .self .self
variable{K:FC}{F:Fz}{ι:lk}{m:J}{env:Env}{s:az}{A:bL}{α:Type}{Q:Bool->az->Prop}{E':Ar}{r:R α}
theorem SE.cC(h:SE X e d)(O:X.Of K)(c:cI X.lv A K.all)(x:FS X.C K F ι m env s){Q:Ar}(hr:R.bind (bI X.ok X.κ env m d) f=r)(hb:r≠.H)(hE:eL X.C K F ι env r E')
  (k:∀v d m a b s,f d m=r->Le F a->Pre ι b->FS X.C K a b m env s->Rl X.C a b v d->Q v s):aD X.C.md A (eval e K.p) Q E' s:=Internal.cC (h K F ι m env s A O c x) hr hb hE k
theorem SE.nk(h:SE X e d)(O:X.Of K)(a:cI X.lv A K.all)(x:FS X.C K F ι m env s){r:R V}{Q:Ar}(hr:bI X.ok X.κ env m d=r)(hb:r≠.H)(hE:eL X.C K F ι env r E')(hQ:jg X.C K F ι env r (Rl X.C) Q):aD X.C.md A (eval e K.p) Q E' s:=by subst hr;exact P.mono (h K F ι m env s A O a x hb) hQ hE
theorem SB.cC(h:SB X e d)(O:X.Of K)(g:cI X.lv A K.all)(x:FS X.C K F ι m env s)(hr:R.bind (fc<|bI X.ok X.κ env m d) f=r)(hb:r≠.H)(hE:eL X.C K F ι env r E')
  (k:∀b m a c s,f (.bool b) m=r->Le F a->Pre ι c->FS X.C K a c m env s->Q b s):aD X.C.md A (isTrue e K.p<|eval e K.p) Q E' s:=
 Internal.cC (h K F ι m env s A O g x) hr hb hE λb Z m F ι s hr B E x e=>k b m F ι s (rws e hr) B E x
end
section
variable{X:Fx}
noncomputable def gS(e:bj):Bool:=!(e.ctorIdx==22)
theorem zw(h:gS e=ae):starEach (e::r) env=(aq,eval e env)::starEach r env:=by induction e using iJ<;>first|rfl|exact iI h
noncomputable def lI(X:Fx)(es:List bj)(ds:List E):Prop:=
 ∀(K)(F)(ι)(m)(B)(s)(A)(pos),X.Of K->cI X.lv A K.all->FS X.C K F ι m B s->jH X.ok X.κ B m ds≠.H->
  aD X.C.md A (spliced<|backTo pos<|starEach es K.p) (cg X.C K F ι B (jH X.ok X.κ B m ds)<|aU X.C) (kG X.C K F ι B<|jH X.ok X.κ B m ds) s
theorem afn:lI X [] []:=λZ Z Z Z Z Z Z Z Z Z x Z=>P.of<|GP<|.mk rfl x .nil
theorem uM
  (h:aD M A x (λv b=>aD M A (spliced<|backTo pos rest) (λvs c=>Q (v::vs) c) a b) a s):aD M A (spliced<|backTo pos ((aq,x)::rest)) Q a s:=P.spliced_cons h
theorem ac3(hn:gS e=ae)(h:SE X e d)(hs:lI X es ds):lI X (e::es) (d::ds):=λK F ι m B s A pos O J x M=>by rw[zw hn];exact uM (h.cC O J x (f:=λv m=>R.bind (jH X.ok X.κ B m ds) λP m=>.ok (v::P) m) rfl M .self λv d m F ι s E S T x r=>cC (hs K F ι m B s A pos O J x) E M (eL.self.up S T) λP ds m F ι s E V Y x a=>.mk' E.symm (S.trans V) (T.trans Y) x<|.cons (r.mono V Y) a)
variable{K:FC}{F:Fz}{ι:lk}{m:J}{env:Env}{s:az}{A:bL}{α:Type}{E':Ar}{r:R α}
theorem lI.cC(h:lI X es ds)(O:X.Of K)(c:cI X.lv A K.all)(x:FS X.C K F ι m env s)(hr:R.bind (jH X.ok X.κ env m ds) f=r)(hb:r≠.H)(hE:eL X.C K F ι env r E')
  (k:∀v d m a b s,f d m=r->Le F a->Pre ι b->FS X.C K a b m env s->aU X.C a b v d->Q v s):aD X.C.md A (spliced<|backTo pos<|starEach es K.p) Q E' s:=Internal.cC (h K F ι m env s A pos O c x) hr hb hE k
theorem afo{o:Option Sl}(h:(match o with|some (.val v)=>aa v|_=>ag:La)≠ag):∃d,o=aa (.val d):=by induction o using aO with|none=>exact aT rfl h|some s=>induction s using Sl.casesOn with|val d=>exact⟨d,rfl⟩|_=>exact aT rfl h
theorem afp{ok:Nm->Nm->Bool}(h:bI ok κ env m (.ba k)≠.H):∃d,env[k]?=aa (.val d):=afo λe=>h (aw (λo:La=>match o with|some v=>R.ok v m|none=>.H) e)
theorem aiD(h:env[k]?=aa (.val d)):.ok d m=bI ok κ env m (.ba k):=
 aw (λo:Option Sl=>match(match o with|some (.val v)=>aa v|_=>ag:La) with|some v=>R.ok v m|none=>.H) h.symm
theorem ig.inv(x:ig C bc F ι h o sl):Sl.casesOn (motive:=λZ=>Prop) sl True (λd=>∃v,o=aa v/\Rl C F ι v d) (λq=>∃a ob,o=aa (.ref a)/\Pv bc F ι a/\h.get? a=aa ob/\di C F ι ob q):=
 ig.casesOn x trivial (λr=>i12 _ rfl r) λP e r=>jP _ _ rfl P e r
theorem Rn(x:ig C bc F ι h o (.val d)):∃v,o=aa v/\Rl C F ι v d:=x.inv
theorem Fm.Ro{a:Str->Option ar}(f:Fm C K F ι env h a){k:Nat}{x:Str}{d:V}(e1:K.ns[k]?=aa x)(b:env[k]?=aa (.val d))(e3:K.p.kindOf x=aa .free\/(K.p.kindOf x=aa .cell/\K.ro=ae)){G:Prop}
  (g:∀c ob v,K.p.cells.lookup x=aa c->K.bc.heap.get? c=aa ob->ob.data=.cell (aa v)->c∉K.cy->Rl C F ι v d->G):G:=
 (f.qG k x _ e1 b e3).elim (λq=>Sl.noConfusion q) λq=>iG q λc ob v Z m r s A B E=>g c ob v m r s A<|rwl (Sl.val.inj B) E
theorem SP(hk:X.ns[k]?=aa x)(hd:(x==("__debug__":Str))=aq)(hc:(x==("__classdict__":Str))=aq):SE X (.Name x pos) (.ba k):=.intro λ{K F ι m env s A r Q E} O j T b f g l=>by
 refine bu (afp (b▸f)) λd B=>?_;have q:=λ{v:ar}=>g.at (v:=v) ((aiD B).trans b) T;refine bu T.fm λn fm=>?_;have J:=O.ns.symm▸hk;refine P.of<|GQ ?_ hd;rcases fm.i4 k x _ J B with hl|hl|hl
 ·exact bo (Rn<|fm.ba k x _ J B hl) λv h r=>GR O.make.kind hl fm.ns h<|q r
 ·induction e:K.ro using aS with
  |false=>
   refine gx ((fm.ij e k x _ J B hl).1) λc v M R S Z=>bo (Rn S) λv i r=>?_;subst i;exact wpAny_loadName_cell O.make.kind hl M R<|q r
  |true=>exact fm.Ro J B (.inr ⟨hl,e⟩) λc V v M R S Y a=>wpAny_loadName_cell O.make.kind hl M (i12 V (T.st.kp _ _ R Y) S)<|q a
 ·exact fm.Ro J B (.inl hl) λc V v M R S Y a=>wpAny_loadName_free O.make.kind hl M (i12 V (T.st.kp _ _ R Y) S) (q a) hc
theorem afq(W:X.Wf)(hs:X.sc.names.lookup x=aa .globalImplicit)(hg:X.gl (aF x)=ae)(hd:(x==("__debug__":Str))=aq):SE X (.Name x pos) (.dB<|aF x):=.intro λO r xx m s hQ A=>(W.gl x hg).elim λa h=>P.of (GS O.make.kind (show _=_ by unfold Env.kindOf;rw[O.sc];exact hs) (WZ (rwl O.make.dB<|xx.wd.g _ xx.st.fz) h.1<|hQ.at m xx<|.fn h.1 h.2) hd)
theorem iR(h:n<=1000000):n<=sizeLine:=au h (by unfold sizeLine;decide)
theorem R.uN{α β:Type}{x:R α}{f:α->J->R β}{v:β}{m:J}(h:R.bind x f=.ok v m){G:Prop}(kk:∀a m',x=.ok a m'->f a m'=.ok v m->G):G:=by induction x using R.casesOn with|ok a m'=>exact kk a m' rfl h|_=>cases h
theorem ac4{ok:Nm->Nm->Bool}{κ:i3}{env:Env}{ds:List E}:∀{m}{vs}{m'},jH ok κ env m ds=.ok vs m'->vs.length=ds.length:=by induction ds with|nil=>intro m vs m' h;exact(R.ok.inj (show R.ok [] m=_ from h)).1▸rfl|cons d ds ih=>intro m vs m' h;exact R.uN (f:=λv m=>R.bind (jH ok κ env m ds) λvs m=>.ok (v::vs) m) h λv m1 Z h=>R.uN h λs A r h=>rws (R.ok.inj h).1<|aw sJ<|ih r
section
variable{C:Cx}{K:FC}{F:Fz}{ι:lk}{m:J}{env:Env}{s:az}
theorem aU.arr(h:aU C F ι vs ds):aU C F ι vs.toArray.toList ds:=h
theorem FS.El(x:FS C K F ι m env s)(h:aU C F ι vs ds):
  ∃a,Le F a/\FS C K a ι m env {s with heap:=s.heap.push {cls:=.type "tuple",data:=.seq vs.toArray}}/\Rl C a ι (.ref s.heap.objs.size) (.tup ds):=
 (cu _ ((x.new).2) ((x.new).1)<|.tup (Fz.m6 ..) rfl rfl ⟨rfl,rfl⟩<|h.arr.mono (x.new (o:={cls:=.type "tuple",data:=.seq vs.toArray})).2<|.refl ι)
theorem FS.Em(x:FS C K F ι m env s)(h:aU C F ι vs ds):
  ∃a,Le F a/\FS C K a ι m env {s with heap:=s.heap.push {cls:=.type "list",data:=.seq vs.toArray}}/\Rl C a ι (.ref s.heap.objs.size) (.lst ds):=
 (cu _ ((x.new).2) ((x.new).1)<|.lst (Fz.m6 ..) rfl rfl ⟨rfl,rfl⟩<|h.arr.mono (x.new (o:={cls:=.type "list",data:=.seq vs.toArray})).2<|.refl ι)
theorem FS.afr(x:FS C K F ι m env s)(h:aU C F ι vs ds):
  ∃a,Pre ι a/\FS C K F a (m++[.lst ds]) env {s with heap:=s.heap.push {cls:=.type "list",data:=.seq vs.toArray}}/\Rl C F a (.ref s.heap.objs.size) (.ref m.length):=
 (cu _ ((x.Fh (ob:={cls:=.type "list",data:=.seq vs.toArray})<|.lst rfl rfl ⟨rfl,rfl⟩ h.arr).2) ((x.Fh<|.lst rfl rfl ⟨rfl,rfl⟩ h.arr).1) (.ref (by rw[<-x.st.len];simp)))
end
theorem aU.line(h:aU C F ι vs a)(e:a.length=n)(hl:n<=1000):vs.length<=sizeLine:=iR<|rwl (h.length.trans e)<|au hl<|dl rfl
theorem lI.all(hl:ds.length<=1000)(h:lI X es ds)(O:X.Of K)(c:cI X.lv A K.all)(x:FS X.C K F ι m env s)(hr:R.bind (jH X.ok X.κ env m ds) f=r)(hb:r≠.H)(hE:eL X.C K F ι env r E')
  (k:∀v d m a b s,f d m=r->Le F a->Pre ι b->FS X.C K a b m env s->aU X.C a b v d->v.length<=sizeLine->Q v s):aD X.C.md A (spliced<|backTo pos<|starEach es K.p) Q E' s:=
 Internal.cC (rel:=λF ι v d=>aU X.C F ι v d/\d.length=ds.length) (λhb=>P.mono (h K F ι m env s A pos O c x hb) (λZ Z y=>y.casesOn λd m F ι e B E x y=>⟨d,m,F,ι,e,B,E,x,y,ac4 e⟩) λZ Z y=>y) hr hb hE
  λv d m F ι s hr B E x y=>k v d m F ι s hr B E x y.1<|y.1.line y.2 hl
theorem aiE(hl:ds.length<=1000)(h:lI X es ds):SE X (.Tuple es k pos) (.tup ds):=.intro λO B x A E J K=>P.Tuple_ (h.all hl O B x (f:=λl m=>R.ok (V.tup l) m) A E K λv d m F ι s A M S x r T=>(x.El r).elim λY y=>P.of<|wpAny_newTuple (J.at' A (M.trans y.1) S y.2.1 y.2.2) T)
theorem aiF(hl:ds.length<=1000)(h:lI X es ds):SE X (.List es pos) (.lst ds):=.intro λO B x A E J K=>P.List_ (h.all hl O B x (f:=λl m=>R.ok (V.lst l) m) A E K λv d m F ι s A M S x r T=>(x.Em r).elim λY y=>P.of<|MF (J.at' A (M.trans y.1) S y.2.1 y.2.2) T)
theorem afs(hl:ds.length<=1000)(h:lI X es ds):SE X (.List es pos) (.kj ds):=.intro λO B x A E J K=>P.List_ (h.all hl O B x (f:=λl m=>R.ok (V.ref m.length)<|m++[Internal.O.lst l]) A E K λv d m F ι s A M S x r T=>(x.afr r).elim λY y=>P.of<|MF (J.at' A M (S.trans y.1) y.2.1 y.2.2) T)
theorem DN(h:SE X e d)(he:∀env whole,isTrue e env whole=(do let v<-whole;standAt e.pos;holding [v] (truthy v))):SB X e d:=.intro λO B x r A hQ E=>P.isTrue_plain (h.cC O B x (f:=Bt) r A E λv d m F ι s r J K x y=>(Rk r A).elim λb e=>om (e.1▸y)▸P.of (GU<|hQ.at' e.2 J K x rfl))<|he _ _
noncomputable def Bu(v:V)(m:J):R V:=match v with|.bool b=>.ok (.bool !b) m|_=>.H
theorem aft(x):fc (R.bind x Bu)=R.bind (fc x) Bu:=by induction x using R.casesOn with|ok v m=>induction v using V.casesOn<;>rfl|_=>rfl
theorem aiG(h:SB X e d):SB X (.UnaryOp .Not e pos) (.not d):=.intro λO A x r B E J=>P.isTrue_not (h.cC O A x (f:=Bu) ((aft _).symm.trans r) B J λb m F ι s r K M x=>E.at' r K M x rfl)
theorem afu{r:R V}(hr:Bu d m=r)(hb:r≠.H):∃b,d=.bool b/\.ok (.bool !b) m=r:=by induction d using V.casesOn with|bool b=>exact i12 b rfl hr|_=>exact aT hr.symm hb
theorem aiH{pos:Pos}(h:SE X e d):SE X (.UnaryOp .Not e pos) (.not d):=.intro λO B x r A hQ E=>P.UnaryOp_ (h.cC O B x (f:=Bu) r A E λv d m F ι s r J K x y=>(afu r A).elim λb e=>om (e.1▸y)▸P.of (not_of<|GU<|hQ.at' e.2 J K x<|.bool _))
theorem aiI:bI X.ok X.κ env m (.ite t a b)=R.bind (fc<|bI X.ok X.κ env m t) (bR (λm=>bI X.ok X.κ env m a) λm=>bI X.ok X.κ env m b):=SO
theorem aiJ{dt d e:E}(f:SB X t dt)(ha:SE X a d)(g:SE X b e):SE X (.IfExp t a b pos) (.ite dt d e):=.intro λO J x r K hQ M=>P.IfExp_ (f.cC O J x (aiI.symm.trans r) K M λc m F ι s r A B x=>match c with|true=>ha.nk O J x r K (M.up A B) (hQ.up A B)|false=>g.nk O J x r K (M.up A B)<|hQ.up A B)
end
section
variable{C:Cx}{K:FC}{F F':Fz}{ι av:lk}{m m':J}{env:Env}{s s':az}
theorem Pq(r:Rl C F ι v d):handedIn v=ae:=by cases r<;>rfl
theorem cn.find(r:cn C F ι es ds)(x):(∃e d,look (aF x) ds=aa d/\es.find? (λe=>e.key.isStr x)=aa e/\Rl C F ι e.val d)\/(look (aF x) ds=ag/\es.find? (λe=>e.key.isStr x)=ag):=by
 refine r.ind (P:=λes ds=>(∃e d,look (aF x) ds=aa d/\es.find? (λe=>e.key.isStr x)=aa e/\Rl C F ι e.val d)\/(look (aF x) ds=ag/\es.find? (λe=>e.key.isStr x)=ag)) (.inr ⟨rfl,rfl⟩) λe y t d es ds m B h r s=>?_
 ·skip
  by_cases q:aF x=aF y
  ·exact .inl (fX e d (aC q) (aog (p:=λe:fP=>e.key.isStr x) (show e.key.isStr x=ae by rw[m];exact bO.mpr (j1 q).symm)) h)
  ·rw[show look (aF x) ((aF y,d)::ds)=look (aF x) ds from aB q,aoh (p:=λe:fP=>e.key.isStr x) (show¬e.key.isStr x=ae by rw[m];exact λh=>q<|aw aF (bO.mp h).symm)];exact s
theorem cn.noRef(r:cn C F ι es ds):es.any (·.refKey)=aq:=by refine r.ind (P:=λes Z=>es.any (·.refKey)=aq) rfl λe y t d es ds m B h r s=>?_;rw[W0,s,DictEntry.refKey,m];rfl
theorem cn.getL(r:cn C F ι es ds)(x):(∃v d,look (aF x) ds=aa d/\qV x es=aa (aa v)/\Rl C F ι v d)\/(look (aF x) ds=ag/\qV x es=aa ag):=by
 unfold qV;refine bZ (r.find x) (λm=>cP m λe d s B E=>?_) λm=>aW m λs B=>?_
 ·exact .inl (fX e.val d s (by rw[B]) E)
 ·exact .inr ⟨s,by rw[B,r.noRef];rfl⟩
theorem cn.at(r:cn C F ι es ds)(h:look (aF x) ds=aa d):∃v,qV x es=aa (aa v)/\Rl C F ι v d:=
 (r.getL x).elim (λq=>cP q λv Z h1 m s=>i12 v m<|rws (bf<|h1.symm.trans h) s) λg=>bk<|g.1.symm.trans h
theorem cn.isStr(r:cn C F ι es ds):∀e∈es,∃x t,e.key=.str x t/\e.hash=hashStr C.w x:=
 r.ind (P:=λes Z=>∀e∈es,∃x t,e.key=.str x t/\e.hash=hashStr C.w x) (λZ h=>nomatch h) λZ Z Z Z Z Z m s Z Z ih e B=>(sS.mp B).elim (λq=>rwl q<|iY _ _ m s)<|ih e
theorem Ij(h1:o.ExactDict)(h2:o.data=.dict es n):o=dictOf es.toList n:=
 xB h1.1 h2 ⟨h1.2.1,h1.2.2⟩
structure Fx.At(X:Fx):Prop where
 get:∀(c x),X.ok (aF c) (aF x)=ae->∃a attr,X.C.mg c=aa (.ref a)/\plainGet X.C.K a x=ae/\hasDictIn X.C.K a=ae/\findIn X.C.K (.ref a) x=aa attr/\noGet X.C.K attr=ae
 set:∀(c x),X.ok (aF c) (aF x)=ae->∃a,X.C.mg c=aa (.ref a)/\findIn X.C.K (.ref a) "__setattr__"=aa (aa<|.builtin "object.__setattr__")/\plainOver X.C.K a=ae/\takerIn X.C.K a x=aa ag/\hasDictIn X.C.K a=ae
theorem FS.i4(x:FS C K F ι m env s):C.K.In s.heap:=x.wd.k _ x.st.fz
theorem FS.inst(x:FS C K F ι m env s)(r:Rl C F ι v (.inst c i))(e:m[i]?=aa (.aA l)){G:Prop}
  (k:∀a cl d es n y,v=.ref a->aF y=c->C.mg y=aa (.ref cl)->ι[i]?=aa d->s.heap.get? d=aa (dictOf es n)->cn C F ι es l->InstAt s.heap a (instObj cl d) cl (aa<|dictOf es n)->G):G:=
 VJ r.inv λa cl d y M O P R h=>bo (x.dat h e) λV B S=>cA S.inv λes E J T=>k a cl d _ _ y M O P h (B.trans<|aw aa<|Ij E J) T ⟨x.st.fz _ _ R,rfl,rfl,B.trans<|aw aa<|Ij E J⟩
variable{X:Fx}{A:bL}
theorem aaC{E:Ar}{K:fg}{x C:aH}(X:K.In s.heap)(I:InstAt s.heap x a C (aa<|dictOf es n))(hg:plainGet K C name=ae)(hh:hasDictIn K C=ae)
  (ha:findIn K (.ref C) name=aa attr)(hn:noGet K attr=ae)(hl:qV name es=aa (aa v))(hv:handedIn v=ae)(h:Q v {s with toks:=s.toks+1}):
  wpAny (model prog w) A (getAttr (.ref x) name expr) Q E s:=
 get_value X I (plainGet_of hg).1 (findObj_own hh ha hn hl) hv h
theorem ac5(e:xV ok m d n=aa u):∃c i l,d=.inst c i/\ok c n=ae/\m[i]?=aa (.aA l)/\look n l=aa u:=by
 refine cO e λp A e=>?_;by_cases s:ok p.1 n=ae
 ·exact cO ((aC s).symm.trans e) λl B e=>ee p.1 p.2 l A s B e
 ·exact bk<|(aB s).symm.trans e
theorem Rp(W:X.At)(x:FS X.C K F ι m env s){n:Str}{u:V}{expr:Bool}{E:Ar}(r:Rl X.C F ι v d)(e:xV X.ok m d (aF n)=aa u):
  wpAny X.C.md A (getAttr v n expr) (cg X.C K F ι env (.ok u m)<|Rl X.C) E s:=by
 refine gl λt J=>?_;refine jQ (ac5 e) λc i l M O q P=>?_;subst M;refine x.inst r q λa R d z k y S T Y D G b f=>?_;subst S T;refine K7 (W.get y n O) λg attr g1 h j g4 o=>?_;refine bo (b.at P) λw p B=>?_;refine J ?_;rw[show g=R from pH (bf<|g1.symm.trans Y)] at*;exact aaC x.i4 f h j g4 o p (Pq B)<|.mk rfl (x.tok _) B
theorem afv(W:X.At)(h:SE X e d)(he:∀env,attributeBase e n env (eval e env)=eval e env):SE X (.Attribute e n pos) (.attr d<|aF n):=.intro λO C x A B E J=>P.OP (h.cC O C x (f:=λv m=>oR (xV X.ok m v<|aF n) m) A B J λv d m F ι s A K M x r=>sk A B (E.up K M) λu q=>Rp W x r q) (by rw[arm_eval_Attribute ..,he ..])
end
section
namespace BF
theorem zZ:Manifest.owners.lookup (String.ofList ['y','a','r','r','a','e','t','y','b'].reverse)=aa Manifest.sig_bytearray:=by kernel_rfl
theorem Z1:uB "bytearray" "__len__" "bytearray.__len__":=
 .of (owner:="bytearray") (n:="__len__") (by rw[jq ..,jr];kernel_rfl) (by decide+kernel) (by decide+kernel) (by decide+kernel)
  (by first|exact .inl (by decide+kernel)|exact .inr (by decide+kernel)) (by rw[uC ..];kernel_rfl)
theorem Zr:entryFor table "bytearray.__len__"=aa Builtin.«bytearray.__len__»:=Cq (by kernel_rfl)
theorem Z2(a):argsOk "bytearray.__len__" ⟨[a],[]⟩:=by unfold argsOk;rw[GV (id:="bytearray.__len__") (n:=['_','_','n','e','l','_','_']) (o:=['y','a','r','r','a','e','t','y','b']) (by kernel_rfl) zZ];kernel_rfl
theorem CY:uB "bytearray" "__getitem__" "bytearray.__getitem__":=
 .of (owner:="bytearray") (n:="__getitem__") (by rw[jq ..,jr];kernel_rfl) (by decide+kernel) (by decide+kernel) (by decide+kernel)
  (by first|exact .inl (by decide+kernel)|exact .inr (by decide+kernel)) (by rw[uC ..];kernel_rfl)
theorem NW:entryFor table "bytearray.__getitem__"=aa Builtin.«bytearray.__getitem__»:=Cq (by kernel_rfl)
theorem NY(a b):argsOk "bytearray.__getitem__" ⟨[a,b],[]⟩:=by unfold argsOk;rw[GV (id:="bytearray.__getitem__") (n:=['_','_','m','e','t','i','t','e','g','_','_']) (o:=['y','a','r','r','a','e','t','y','b']) (by kernel_rfl) zZ];kernel_rfl
theorem YF:uB "bytearray" "__setitem__" "bytearray.__setitem__":=
 .of (owner:="bytearray") (n:="__setitem__") (by rw[jq ..,jr];kernel_rfl) (by decide+kernel) (by decide+kernel) (by decide+kernel)
  (by first|exact .inl (by decide+kernel)|exact .inr (by decide+kernel)) (by rw[uC ..];kernel_rfl)
theorem YA:entryFor table "bytearray.__setitem__"=aa Builtin.«bytearray.__setitem__»:=Cq (by kernel_rfl)
theorem YG(a b c):argsOk "bytearray.__setitem__" ⟨[a,b,c],[]⟩:=by unfold argsOk;rw[GV (id:="bytearray.__setitem__") (n:=['_','_','m','e','t','i','t','e','s','_','_']) (o:=['y','a','r','r','a','e','t','y','b']) (by kernel_rfl) zZ];kernel_rfl
end BF
noncomputable def lz(h:eM)(a:aH)(b:Array UInt8):Prop:=∃o,h.get? a=aa o/\o.cls=.type "bytearray"/\o.data=.bytearray b 0
theorem lz.typeIs{s:az}(h:lz s.heap a b):s.TypeIs (.ref a) "bytearray":=let⟨o,B,E,_⟩:=h;(i12 o B E)
theorem xb{E:Ar}(h:lz s.heap a b)(q:Q b s):wpAny M A (W1<|.ref a) Q E s:=by
 refine cA h λB J O P=>?_
 (induction B using WW with|_ c d dt R)
 subst O P;unfold W1 Builtin.Bytes.payload?;exact aI<|aI<|sM J<|bE<|bE q
theorem afw(a:aH):Meets (Builtin.«bytearray.__len__» ⟨[.ref a],[]⟩) (λZ R s=>∃b,lz s.heap a b/\R (.ok<|.ret<|.int b.size s.toks) {s with toks:=s.toks+1}):=by refine .of_wp λprog w A R s B=>bo B λb E h=>?_;refine(?_:wpAny _ _ (W1 (.ref a)>>=λr=>_) _ _ s);exact aI<|xb E<|aI<|W2<|bE<|i12 _ rfl h
theorem ac6(a:aH)(i)(u)(hr:MG i=ae):Meets (Builtin.«bytearray.__getitem__» ⟨[.ref a,.int i u],[]⟩) (λZ R s=>∃b c,lz s.heap a b/\(seqIndex? i b.size).bind (b[·]?)=aa c/\R (.ok<|.ret<|.int c.toNat s.toks) {s with toks:=s.toks+1}):=by refine .of_wp λprog w A R s B=>cP B λb c E J h=>?_;refine(?_:wpAny _ _ (aoi (.int i u)>>=λr=>_) _ _ s);refine aI ?_;unfold aoi;refine aI<|jt (W3 s i u) F.slot_int_index.lookup ?_;refine(?_:wpAny _ _ (if (!MG i)=ae then _ else pure (aa i)) _ _ s);rw[hr];refine bE<|aI<|xb E ?_;rw[J];exact aI<|W2<|bE<|i12 _ rfl h
section
variable{C:Cx}{K:FC}{F F':Fz}{ι av:lk}{m m':J}{env:Env}{s s':az}{A:bL}{E:Ar}
theorem Ik{α:Type}{l:List α}{x:α}(e:idx l i=aa x):0<=i/\i<1000000/\l[i.toNat]?=aa x/\i.toNat<l.length:=by
 by_cases h:0<=i/\i<1000000
 ·have e:=(aC h).symm.trans e;exact lG h.1 h.2 e<|(List.getElem?_eq_some_iff.mp e).1
 ·exact bk<|(aB h).symm.trans e
theorem Rq(a:0<=i)(h:i.toNat<n):seqIndex? i n=aa i.toNat:=by have m:=Int.not_lt.mpr a;have s:=(Int.toNat_lt a).mp h;simp[seqIndex?,m,a,s]
theorem Qk(a:0<=i)(h1:i<1000000):MG i=ae:=by simp only[MG,yY,decide_eq_true_eq];lia
theorem Ql{b:Array UInt8}{r:V}(e:(idx (cq b) i).map (λb:Nat=>V.int b)=aa r):0<=i/\i<1000000/\∃c,(seqIndex? i b.size).bind (b[·]?)=aa c/\r=.int c.toNat:=by refine ej e λc q s=>rws s (mB (Ik q) λC E m A=>?_);unfold cq at m A;replace m:=(gB)▸m;rw[bJ,kX] at A;refine ej m λF B s=>rws s ?_;replace B:=(yX)▸B;exact⟨C,E,F,rwl (Rq C A) B,rfl⟩
theorem cn.findBy(r:cn C F ι es.toList ds)(x):(∃v d,look (aF x) ds=aa d/\pI sO es x=aa v/\Rl C F ι v d)\/(look (aF x) ds=ag/\pI sO es x=ag):=by
 unfold pI;rw[show(λd:fP=>sO x d.key)=λd=>d.key.isStr x from funext λd=>(isStr_of x d.key).symm,<-aoj];refine bZ (r.find x) (λm=>cP m λe d s A B=>?_) λm=>aW m λs A=>?_
 ·exact .inl (fX e.val d s (by rw[A];rfl) B)
 ·exact .inr ⟨s,by rw[A];rfl⟩
theorem cn.Ku(r:cn C F ι es.toList ds)(h:look (aF x) ds=aa d):∃v,pI sO es x=aa v/\Rl C F ι v d:=
 (r.findBy x).elim (λq=>cP q λv A h1 m s=>i12 v m<|rws (bf<|h1.symm.trans h) s) λg=>bk<|g.1.symm.trans h
theorem eB.find(r:eB C F ι es ds)(x):(∃e d,gp x ds=aa d/\es.find? (λe=>mU x e.key)=aa e/\Rl C F ι e.val d)\/(gp x ds=ag/\es.find? (λe=>mU x e.key)=ag):=by
 induction r with|nil=>exact .inr ⟨rfl,rfl⟩|@cons e y t d es ds m A h r s=>
  by_cases q:y=x
  ·exact .inl (fX e d (aC q.symm) (aog (p:=λe:fP=>mU x e.key) (show mU x e.key=ae by rw[m];exact bO.mpr q)) h)
  ·rw[show gp x ((y,d)::ds)=gp x ds from aB λw=>q w.symm,aoh (p:=λe:fP=>mU x e.key) (show¬mU x e.key=ae by rw[m];exact λh=>q<|bO.mp h)];exact s
theorem eB.findBy(r:eB C F ι es.toList ds)(x):(∃v d,gp x ds=aa d/\pI mU es x=aa v/\Rl C F ι v d)\/(gp x ds=ag/\pI mU es x=ag):=by
 unfold pI;rw[<-aoj];refine bZ (r.find x) (λm=>cP m λe d s A B=>?_) λm=>aW m λs A=>?_
 ·exact .inl (fX e.val d s (by rw[A];rfl) B)
 ·exact .inr ⟨s,by rw[A];rfl⟩
theorem eB.Ku(r:eB C F ι es.toList ds)(h:gp x ds=aa d):∃v,pI mU es x=aa v/\Rl C F ι v d:=
 (r.findBy x).elim (λq=>cP q λv A h1 m s=>i12 v m<|rws (bf<|h1.symm.trans h) s) λg=>bk<|g.1.symm.trans h
theorem eB.isInt(r:eB C F ι es ds):∀e∈es,∃i t,e.key=.int i t/\e.hash=hashInt i:=by induction r with|nil=>exact λZ h=>nomatch h|cons m s _ _ ih=>exact λe A=>(sS.mp A).elim (λq=>rwl q<|iY _ _ m s)<|ih e
theorem Kv{h:eM}(ho:h.get? a=aa o)(h1:o.ExactDict)(h2:o.data=.dict es n)(r:cn C F ι es.toList ds):h.MapOf (strKind C.prog C.w) a (λk=>pI sO es k):=
 (sd _ es n ho h1 h2 (λe m=>fw (r.isStr e<|Array.mem_toList_iff.mpr m) λx t s A=>i12 x (rwl s<|sP _ _ x t) A) λZ=>rfl)
theorem UL{h:eM}(ho:h.get? a=aa o)(h1:o.ExactDict)(h2:o.data=.dict es n)(r:eB C F ι es.toList ds):h.MapOf (intKind C.prog C.w) a (λk=>pI mU es k):=
 (sd _ es n ho h1 h2 (λe m=>fw (r.isInt e<|Array.mem_toList_iff.mpr m) λx t s A=>i12 x (rwl s<|wB _ _ x t) A) λZ=>rfl)
theorem Il(x:FS C K F ι m env s)(r:Rl C F ι v (.ref i))(e:m[i]?=aa (.bW l)):
  ∃a o es n,v=.ref a/\s.heap.get? a=aa o/\o.ExactDict/\(o.data=.dict es n/\n=es.size)/\eB C F ι es.toList l/\(a==sysModules)=aq/\ι[i]?=aa a:=
 r.inv.elim λa q=>(x.dat q.2 e).elim λA h=>h.2.inv.elim λes g=>⟨a,A,es,_,q.1,h.1,g.1,⟨g.2.1,rfl⟩,g.2.2,x.st.ns _<|get_mem q.2,q.2⟩
section
variable{value slice:bj}(hs:∀o i t,subscripted slice aq o (.int i t)=operate [o,.int i t] (getItem o<|.int i t))
include hs
theorem afx(x:FS C K F ι m env s){v u:ar}{i:Int}(hv:Rl C F ι v d)(b:Rl C F ι u (.int i))(hd:rv m d=.tup l)(e:idx l i=aa r):wpAny C.md A (subscriptTail value slice v u) (cg C K F ι env (.ok r m)<|Rl C) E s:=
 oq b λt=>HN x hv hd λa T o B=>mB (Ik e) λJ M O P=>bo (B.Kt O) λy R S=>qW o.typeIs slot_tuple_getitem.lookup (getItem_tuple (j:=i.toNat) o (W4 (dc rfl) J) (MH M<|dc rfl) (Rq J<|rwl B.size P) R<|.mk rfl x S)<|hs _ _ _
theorem afy(x:FS C K F ι m env s){v u:ar}{i:Int}(hv:Rl C F ι v d)(b:Rl C F ι u (.int i))(hd:rv m d=.lst l)(e:idx l i=aa r):wpAny C.md A (subscriptTail value slice v u) (cg C K F ι env (.ok r m)<|Rl C) E s:=
 oq b λt=>xj x hv hd λa S o B=>mB (Ik e) λJ M O T=>bo (B.Kt O) λy P R=>qW o.typeIs slot_list_getitem.lookup (wpAny_getItem_list o J (MH M<|dc rfl) P<|.mk rfl x R)<|hs _ _ _
theorem afz(x:FS C K F ι m env s)(hv:Rl C F ι v (.bb l))(a:Rl C F ι u (.int i))(e:(idx l i).map (λb:Nat=>V.int b)=aa r):wpAny C.md A (subscriptTail value slice v u) (cg C K F ι env (.ok r m)<|Rl C) E s:=
 oq a λt=>Ap hv λy O q=>fW (Ql<|rwl q e) λo B h=>bo h λc J M=>qW (Cr _ _ _) aok.lookup (getItem_gives (Cr s _ _) (dc rfl) aok aol (aom _ _) (gives_bytes_getitem y i _ _ c (Qk o B) J) (.mk (M▸rfl) (x.tok _)<|.int _ _))<|hs _ _ _
theorem afA(x:FS C K F ι m env s){v u:ar}(hv:Rl C F ι v d)(f:Rl C F ι u (.int i))(hd:rv m d=.bar l)(e:(idx l i).map (λb:Nat=>V.int b)=aa r):wpAny C.md A (subscriptTail value slice v u) (cg C K F ι env (.ok r m)<|Rl C) E s:=
 oq f λt=>HP x hv hd λa o b J M O q=>fW (Ql<|rws q e) λP R h=>bo h λc S T=>
  have B:lz s.heap a b:=cu o J M O
  qW B.typeIs BF.CY.lookup (W5 B.typeIs (dc rfl) BF.CY BF.NW (BF.NY _ _) (ac6 a i t<|Qk P R) (fX b c B S (.mk (T▸rfl) (x.tok _)<|.int _ _))) (hs _ _ _)
theorem afB(x:FS C K F ι m env s){v u:ar}(hv:Rl C F ι v (.ref k))(b:Rl C F ι u (.int i))(q:m[k]?=aa (.bW l))(e:gp i l=aa r):wpAny C.md A (subscriptTail value slice v u) (cg C K F ι env (.ok r m)<|Rl C) E s:=
 oq b λt=>iG (Il x hv q) λa o V n M O P R B Y=>M▸bo (B.Ku e) λv S T=>
  have J:=UL (C:=C) O P R.1 B
  qW J.typeIs slot_dict_getitem.lookup (wpAny_getItem_of (wB _ _ i t) J S<|.mk rfl (x.tok _) T) (hs _ _ _)
end
theorem afC(x:FS C K F ι m env s){value slice:bj}(b:∀o i t,subscripted slice aq o (.str i t)=operate [o,.str i t] (getItem o<|.str i t))(hv:Rl C F ι v d)(c:Rl C F ι u (.str y))(hd:rv m d=.aA l)(e:look y l=aa r):wpAny C.md A (subscriptTail value slice v u) (cg C K F ι env (.ok r m)<|Rl C) E s:=
 tx c λB t q=>HO x hv hd λa o V n O P R J Y=>bo (J.Ku (x:=B)<|rwl q e) λv S T=>
  have M:=Kv (C:=C) O P R J
  qW M.typeIs slot_dict_getitem.lookup (wpAny_getItem_of (sP _ _ B t) M S<|.mk rfl (x.tok _) T) (b _ _ _)
theorem cF(e:d=a)(r:Rl C F ι v d):Rl C F ι v a:=rws e r
theorem aiK(x:FS C K F ι m env s)(hv:Rl C F ι v d)(a:Rl C F ι u j)(e:vB m d j=aa r)
  (hs:∀o i t,subscripted slice aq o (.int i t)=operate [o,.int i t] (getItem o<|.int i t))(b:∀o i t,subscripted slice aq o (.str i t)=operate [o,.str i t] (getItem o<|.str i t)):
  wpAny C.md A (subscriptTail value slice v u) (cg C K F ι env (.ok r m)<|Rl C) E s:=by
 unfold vB at e;induction B:rv m d using V.casesOn with
 |tup l=>rw[B] at e;refine cO e λi J e=>?_;exact afx hs x hv (cF J a) B e
 |lst l=>rw[B] at e;refine cO e λi J e=>?_;exact afy hs x hv (cF J a) B e
 |bb l=>rw[B] at e;refine cO e λi J e=>?_;exact afz hs x (cF (tF B) hv) (cF J a) e
 |bar l=>rw[B] at e;refine cO e λi J e=>?_;exact afA hs x hv (cF J a) B e
 |aA l=>rw[B] at e;refine cO e λy J e=>?_;exact afC x b hv (cF J a) B e
 |ref k=>
  replace e:=(B)▸e;refine gl λO M=>?_;refine cO e λi J e=>?_;refine cO e λl q e=>?_;refine M ?_;exact afB hs x (cF (SI B) hv) (cF J a) q e
 |_=>rw[B] at e;exact bk e
end
end
section
theorem ac7{α:Type}(l:List α)(b):l.take (min b l.length)=l.take b:=by
 refine bZ (W6 b l.length) (λh=>?_) λh=>?_
 ·rw[mR h]
 ·rw[MA h,lR,sQ h]
theorem afD{α:Type}(l:List α)(a b):(l.drop<|min a l.length).take (min b l.length-min a l.length)=(l.take b).drop a:=by
 rw[<-List.drop_take,ac7 ..];refine bZ (W6 a l.length) (λh=>?_) λh=>?_
 ·rw[mR h]
 ·rw[MA h,aon<|MJ b l,aon<|au (MJ b l) h]
theorem En{α:Type}(l:List α)(lo hi):
  (l.drop ((lo.map λk:Nat=>(k:Int)).elim 0<|clipAt l.length)).take ((hi.map λk:Nat=>(k:Int)).elim l.length (clipAt l.length)-(lo.map λk:Nat=>(k:Int)).elim 0 (clipAt l.length))=cut l lo hi:=by
 have B:(lo.map λk:Nat=>(k:Int)).elim 0 (clipAt l.length)=min (lo.getD 0) l.length:=by induction lo using aO with|none=>exact(Nat.zero_min _).symm|some k=>exact MK _ _
 have E:(hi.map λk:Nat=>(k:Int)).elim l.length (clipAt l.length)=min (hi.getD l.length) l.length:=by induction hi using aO with|none=>exact(ML _).symm|some k=>exact MK _ _
 rw[B,E];exact afD l _ _
theorem afE{α β:Type}(f:α->β)(l)(lo hi):(cut l lo hi).map f=cut (l.map f) lo hi:=by unfold cut;rw[W7,MM,bJ ..]
theorem afF{α:Type}(l:List α)(lo hi):(cut l lo hi).length<=l.length:=by unfold cut;rw[yZ,gf];lia
noncomputable abbrev ew(k:Option Nat):Option Int:=k.map λk:Nat=>(k:Int)
theorem Y5(items:Array ar)(lo hi):slicePick items (ew lo) (ew hi) ag=(cut items.toList lo hi).toArray:=by unfold slicePick;rw[MN ..];simp only[MO,pick_run];have:=En items.toList lo hi;replace this:=(kX)▸this;rw[<-this]
theorem aaD(b:Array UInt8)(lo hi):aoo b (sliceBounds (ew lo) (ew hi) ag b.size).1 (sliceBounds (ew lo) (ew hi) ag b.size).2.1 (sliceBounds (ew lo) (ew hi) ag b.size).2.2=(cut b.toList lo hi).toArray:=by unfold aoo;rw[MN ..];simp only[MO,pick_run];have:=En b.toList lo hi;replace this:=(kX)▸this;rw[<-this]
theorem OQ(b)(lo hi):KBy.picked b (ew lo) (ew hi)=(cut b.toList lo hi).toArray:=aaD b lo hi
section
variable{C:Cx}{K:FC}{F F':Fz}{ι av:lk}{m m':J}{env:Env}{s s':az}{A:bL}{E:Ar}
theorem aU.cut(h:aU C F ι vs ds)(lo hi):aU C F ι (Internal.cut vs lo hi) (Internal.cut ds lo hi):=by unfold Internal.cut;rw[h.length];exact(h.take _).drop _
noncomputable def qH(C:Cx)(F:Fz)(ι:lk)(v:ar):La->Prop|none=>v=.none|some d=>Rl C F ι v d
theorem qH.mono(hF:Le F F')(dK:Pre ι av)(h:qH C F ι v d):qH C F' av v d:=by induction d using aO with|none=>exact h|some d=>exact Rl.mono hF dK h
theorem SQ(e:ie d=aa k):(d=ag/\k=ag)\/∃i:Nat,d=aa (.int i)/\k=aa i:=by
 induction d using aO with
 |none=>exact .inl ⟨rfl,(bf e).symm⟩
 |some d=>induction d using V.casesOn with
  |int i=>
   by_cases q:0<=i/\i<1000000
   ·exact .inr (i12 i.toNat (by rw[W9 q.1])<|(bf<|(aC q).symm.trans e).symm)
   ·exact bk<|(aB q).symm.trans e
  |_=>exact bk e
theorem qH.part(h:qH C F ι v d)(e:ie d=aa k):wC v (ew k):=by
 rcases SQ e with⟨rfl,rfl⟩|⟨i,rfl,rfl⟩
 ·cases h;exact .none
 ·exact fB h λt m=>rwl m<|.int i t
namespace BF
end BF
open Builtin in
theorem Qm{lo hi:Option Int}(hl:wC l lo)(a:wC u hi)(ho:s.heap.get? sl=aa o)(hd:o.data=.fields #[l,u,.none]):
  wpAny (model prog w) A (Bytes.sliceParts<|.ref sl) (λr s'=>r=(rawPart lo,rawPart hi,.none)/\s'=s) E s:=by
 refine aI<|jX (x:=.none) ho hd rfl ?_
 kby_none
 refine wpAny_ite (KBy.ite_no (show¬((uD==rawInt 0)=ae) from dq)<|aI<|jX (x:=l) ho hd rfl ?_);cases hl<;>cases a<;>(first
  |(kby_none;(refine aI (jX (x:=.none) ho hd rfl ?_));kby_none)|(kby_none;(refine aI (jX (x:=.int _ _) ho hd rfl ?_));kby_int)|(kby_int;(refine aI (jX (x:=.none) ho hd rfl ?_));kby_none)|(kby_int;(refine aI (jX (x:=.int _ _) ho hd rfl ?_));kby_int))<;>exact bE ⟨rfl,rfl⟩
open Builtin in
theorem afG(a sl:aH){lo hi:Option Int}(hl:wC l lo)(c:wC u hi):
  Meets (Builtin.«bytearray.__getitem__» ⟨[.ref a,.ref sl],[]⟩) (λZ R s=>∃b,lz s.heap a b/\s.heap.IsSliceOf sl l u .none/\(KBy.picked b lo hi).size<=sizeLine/\R (.ok<|.ret<|.ref s.heap.objs.size) {s with heap:=s.heap.push {cls:=.type "bytearray",data:=.bytearray (KBy.picked b lo hi)}}):=by
 refine .of_wp λprog w A R s E=>uh E λb F J K h=>cA J λo m M O=>?_;have B:s.TypeIs (.ref sl) "slice":=i12 o m M;refine(?_:wpAny _ _ (Bytes.subscript? (.ref sl)>>=λr=>_) _ _ s);refine aI ?_;unfold Bytes.subscript?;refine aI (jt B slice_no_index (bE (aI (Xa B (aI (fh (Qm hl c m O) (λr s' C=>?_) λZ Z e=>e))))));rw[C.1,C.2];exact aI (xb F (aI (cV (sliceIndices_raw lo hi ag b.size λe=>bk e)<|aI<|sH (bE<|i12 _ rfl h) K)))
theorem Pt(c:(cq y).length<=1000000):y.size<=1000000:=by unfold cq at c;rwa [bJ,kX] at c
theorem Qn(y:Array UInt8)(lo hi):cq (Internal.cut y.toList lo hi).toArray=Internal.cut (cq y) lo hi:=afE _ _ _ _
section
variable{value lower upper:bj}{AL AM:Option bj}{p:Pos}{sl:aH}(hs:∀o,subscripted (.Slice AL AM ag p) aq o (.ref sl)=operate [.ref sl,o] (getItem o<|.ref sl))(x:FS C K F ι m env s){v vl vu:ar}{d:V}{lo hi:Option Nat}(hv:Rl C F ι v d)
variable(hS:s.heap.IsSliceOf sl vl vu .none)(pl:wC vl (ew lo))(pu:wC vu (ew hi))
include hs x hv hS pl pu
theorem afH(hd:rv m d=.tup l)(e:UG l lo hi=aa r):wpAny C.md A (subscriptTail value (.Slice AL AM ag p) v<|.ref sl) (cg C K F ι env (.ok r m)<|Rl C) E s:=by
 induction lo using aO with|none=>exact bk e|some k=>induction hi using aO with|some _=>exact bk e|none=>
   refine dA e λc B=>rws B ?_;cases pl
   cases pu
   exact HN x hv hd λa J o hr=>(x.El<|hr.drop k).elim λM y=>qW o.typeIs slot_tuple_getitem.lookup (getItem_tuple_from o hS c.1 (hr.size▸c.2.1) (.mk' rfl y.1 (.refl ι) y.2.1 y.2.2) (iR (hr.size▸c.2.2)))<|hs _
theorem afI(hd:rv m d=.lst l)(c:l.length<=1000000):wpAny C.md A (subscriptTail value (.Slice AL AM ag p) v<|.ref sl) (cg C K F ι env (.ok (.lst<|Internal.cut l lo hi) m)<|Rl C) E s:=
 xj x hv hd λa B o hr=>(x.Em<|hr.cut lo hi).elim λJ y=>qW o.typeIs slot_list_getitem.lookup (wpAny_getItem_list_slice o hS pl pu .none (by simp) ((Y5 B lo hi).symm▸.mk' rfl y.1 (.refl ι) y.2.1 y.2.2) (iR (hr.size▸c)))<|hs _
theorem afJ(hd:rv m d=.bb l)(c:l.length<=1000000):wpAny C.md A (subscriptTail value (.Slice AL AM ag p) v<|.ref sl) (cg C K F ι env (.ok (.bb<|Internal.cut l lo hi) m)<|Rl C) E s:=
 Ap (cF (tF hd) hv) λy o q=>qW (Cr _ _ _) aok.lookup (W5 (Cr _ _ _) (dc rfl) aok aol (aom _ _) (KBc.meets_slice2 y o _ pl pu)
  (cv hS (au (KBc.size_picked_le _ _ _) (iR (Pt (q▸c)))) (λo k=>(OQ y lo hi).symm▸.mk rfl (x.tok _) (q▸Qn y lo hi▸.bb _ o))))<|hs _
theorem afK(hd:rv m d=.bar l)(c:l.length<=1000000):wpAny C.md A (subscriptTail value (.Slice AL AM ag p) v<|.ref sl) (cg C K F ι env (.ok (.bar<|Internal.cut l lo hi) m)<|Rl C) E s:=
 HP x hv hd λa o b J M O q=>
  have B:lz s.heap a b:=cu o J M O
  qW B.typeIs BF.CY.lookup (W5 B.typeIs (dc rfl) BF.CY BF.NW (BF.NY _ _) (afG a _ pl pu)
   (vK b B hS (au (KBc.size_picked_le _ _ _) (iR (Pt (q▸c)))) ((OQ b lo hi).symm▸.mk' rfl x.new.2 (.refl ι) x.new.1 (q▸Qn b lo hi▸.bar (Fz.m6 ..) rfl rfl)))) (hs _)
end
theorem afL(y:Str)(lo hi):Builtin.Str.strSliceIndices (ew lo) (ew hi) 1 y.length=sliceRange (((ew lo).elim 0 (clipAt y.length):Nat):Int) (((ew hi).elim y.length (clipAt y.length):Nat):Int) 1:=by refine(?_:sliceRange (sliceBounds (ew lo) (ew hi) ag y.length).1 (sliceBounds (ew lo) (ew hi) ag y.length).2.1 1=_);rw[MN ..]
theorem afM{lo hi:Option Nat}(h:((ew hi).elim l.length (clipAt l.length)-(ew lo).elim 0 (clipAt l.length))=l.length):Internal.cut l lo hi=l:=by
 rw[<-En ..,h];by_cases m:(ew lo).elim 0 (clipAt l.length)=0
 ·rw[m,MQ,lR]
 ·have A:(ew hi).elim l.length (clipAt l.length)<=l.length:=by induction hi using aO with|none=>exact dR _|some k=>refine(?_:clipAt _ _<=_);rw[MK ..];exact y5 _ _
  have s:l=[]:=sR (by lia);rw[s,GK,GJ]
set_option tactic.hygienic true in
theorem ac8(x:FS C K F ι m env s){lo hi:Option Nat}(d:s.heap.IsSliceOf sl (partValue a) (partValue b) .none)(ha:ew lo=a.map (·.1))(hb:ew hi=b.map (·.1))(c:(aF y).length<=1000000):
  wpAny C.md A (getItem (.str y t')<|.ref sl) (cg C K F ι env (.ok (.str<|Internal.cut (aF y) lo hi) m)<|Rl C) E s:=by
 refine cA d λo P R J=>?_;have O:slicePicked y a b ag=sliceRange (((ew lo).elim 0 (clipAt y.length):Nat):Int) (((ew hi).elim y.length (clipAt y.length):Nat):Int) 1:=by rw[<-afL ..];unfold slicePicked;rw[ha,hb];rfl
 have S:y.length=(aF y).length:=by unfold aF Str.length;rw[kX]
 refine wpAny_getItem_str_slice (l:=a) (u:=b) (st:=ag) (cu o P R J) rfl ?_;unfold sliceMade;split
 ·rename_i B;refine .mk rfl x ?_;have B:=bO.mp (Bool.and_eq_true_iff.mp B).2;rw[O,MO,bJ,iL,S] at B;rw[afM B];exact .str y t'
 ·have M:((slicePicked y a b ag).filterMap (y.cps[·]?))=Internal.cut (aF y) lo hi:=by rw[O];simp only[MO,pick_run];have:=En y.cps.toList lo hi;replace this:=(kX)▸this;exact this
  rw[M];exact⟨iR<|au (afF _ _ _) c,.mk rfl (x.tok _)<|Rl.str (C:=C) (F:=F) (ι:=ι) ⟨(Internal.cut (aF y) lo hi).toArray⟩ s.toks⟩
theorem part_of(h:wC v (ew k)):∃a:Option (Int×Tok),ew k=a.map (·.1)/\v=partValue a:=by induction k using aO with|none=>cases h;exact i12 ag rfl rfl|some k=>cases h with|int i t=>exact i12 (aa (_,t)) rfl rfl
variable{X:Fx}
theorem aiL(x:FS C K F ι m env s){v f g:ar}{lo hi:La}(hv:Rl C F ι v d)(hl:qH C F ι f lo)(h:qH C F ι g hi)(e:t6 m d lo hi=aa r):
  wpAny C.md A (subscriptTail value (.Slice lower upper ag p) v<|.ref s.heap.objs.size) (cg C K F ι env (.ok r m)<|Rl C) E {s with heap:=s.heap.push {cls:=.type "slice",data:=.fields #[f,g,.none]}}:=by
 have hs:∀o,subscripted (.Slice lower upper ag p) aq o (.ref s.heap.objs.size)=operate [.ref s.heap.objs.size,o] (getItem o<|.ref s.heap.objs.size):=λo=>rfl;have M:FS C K F ι m env {s with heap:=s.heap.push {cls:=.type "slice",data:=.fields #[f,g,.none]}}:=x.grow (t:=s.toks) λb q e=>eT _ e;have O:(s.heap.push {cls:=.type "slice",data:=.fields #[f,g,.none]}).IsSliceOf s.heap.objs.size f g .none:=Heap.IsSliceOf.new _ _ _ _;refine lZ e λR S e=>lZ e λT X e=>?_;have pl:=hl.part S;have P:=h.part X;induction B:rv m d using V.casesOn with
 |tup l=>rw[B] at e;exact afH hs M hv O pl P B e
 |lst l=>rw[B] at e;refine dA e λc J=>?_;subst J;exact afI hs M hv O pl P B c
 |bb l=>rw[B] at e;refine dA e λc J=>?_;subst J;exact afJ hs M hv O pl P B c
 |bar l=>rw[B] at e;refine dA e λc J=>?_;subst J;exact afK hs M hv O pl P B c
 |str l=>
  replace e:=(B)▸e;refine dA e λc J=>rws J (tw (cF (AK B) hv) λy Y J i=>rwl J ?_);subst i;exact bo (part_of pl) λa j k=>bo (part_of P) λb n b2=>qW (typeIs_str _ y Y) PySem.F.slot_str_getitem.lookup (ac8 M (k▸b2▸O) j n c)<|hs _
 |_=>rw[B] at e;exact bk e
end
end
section
variable{X:Fx}
noncomputable def Im:bj->Bool|.Slice _ _ ag _=>aq|_=>ae
theorem NV(h:Im e=ae)(o i):subscripted e aq o i=operate [o,i] (getItem o i):=by
 induction e using iJ with
 |Slice l u st p=>induction st using aO with
  |none=>exact iI h
  |some _=>rfl
 |_=>rfl
theorem aiM(h:SE X e d)(hi:SE X i j)(hn:Im i=ae):SE X (.Subscript e i pos) (.sub d j):=.intro λ{_ _ _ _ E _ _ _ _ _} O M x B J a S=>P.Subscript_ (h.cC O M x (f:=λv m=>R.bind (bI X.ok X.κ E m j) λu m=>oR (vB m v u) m) B J S λv d m F ι s B T l2 x r=>hi.cC O M x B J (S.up T l2) λu j m F ι s B V Y x b=>sk B J (a.up (T.trans V)<|l2.trans Y) λw q=>aiK x (r.mono V Y) b q (λo i t=>NV hn _ _) λo i t=>NV hn _ _)
noncomputable def vQ(X:Fx)(e:Option bj)(d:Option E):Prop:=
 ∀(K)(F)(ι)(m)(B)(s)(A),X.Of K->cI X.lv A K.all->FS X.C K F ι m B s->nF X.ok X.κ B m d≠.H->
  aD X.C.md A (evalPart e K.p) (cg X.C K F ι B (nF X.ok X.κ B m d)<|qH X.C) (kG X.C K F ι B<|nF X.ok X.κ B m d) s
theorem Qo:vQ X ag ag:=λZ Z Z Z Z Z Z Z Z x Z=>P.of<|Xb<|.mk rfl x rfl
theorem Qp(h:SE X e d):vQ X (aa e) (aa d):=λZ Z Z Z Z Z Z O B x E=>h.cC O B x (f:=λv m=>R.ok (aa v) m) rfl E .self λZ Z Z Z Z Z J M P x r=>.mk' J.symm M P x r
theorem aiN{lo hi:Option bj}{dl a:Option E}(h:SE X e d)(hl:vQ X lo dl)(hh:vQ X hi a):SE X (.Subscript e (.Slice lo hi ag p) pos) (.eY d dl a):=.intro λ{_ _ _ _ J _ _ _ _ _} O S x B M i T=>P.Subscript_ (h.cC O S x (f:=λv m=>R.bind (nF X.ok X.κ J m dl) λlo m=>R.bind (nF X.ok X.κ J m a) λhi m=>oR (t6 m v lo hi) m) B M T λv d m F ι s B V l2 x r=>P.SD (cC (hl _ _ _ _ _ _ _ O S x) B M (T.up V l2) λu j m F ι s B Y b x k=>cC (hh _ _ _ _ _ _ _ O S x) B M (T.up (V.trans Y)<|l2.trans b) λn o m F ι s B c g x l=>P.of (Xb (sk B M (i.up ((V.trans Y).trans c)<|(l2.trans b).trans g) λw q=>aiL x ((r.mono Y b).mono c g) (k.mono c g) l q))))
noncomputable def Fi:BO->Operator|.add=>.Add|.sub=>.Sub|.mul=>.Mult|.fdiv=>.FloorDiv|.mod=>.Mod|.pow=>.Pow|.shl=>.LShift|.shr=>.RShift|.band=>.BitAnd|.bor=>.BitOr|.bxor=>.BitXor
theorem Io(h:lB a=ae):Ct a<=4000000:=by unfold lB at h;have:=of_decide_eq_true h;unfold Ct;split<;>lia
theorem ak9(ha:lB a=ae)(hb:lB b=ae):IntMulOk a b:=by
 have B:=Io ha;have E:=Io hb;have:aoq ((Ct a:Int)+(Ct b:Int))=aq:=by
  unfold aoq;have:¬((Ct a:Int)+(Ct b:Int)>bitsLine):=by
   have e:bitsLine=2^27:=by decide+kernel
   rw[e];lia
  simpa using this
 unfold IntMulOk;rw[this];simp
theorem joined(n:Nat)(l:Array ar):(List.foldl (λa b=>a++b) #[] (gQ (if l.isEmpty=ae then 0 else n) l)).toList=(gQ n l.toList).flatten:=by
 have E:∀(k)(B),(List.foldl (λa b=>a++b) B<|gQ k l).toList=B.toList++(gQ k l.toList).flatten:=by intro k;induction k with|zero=>intro B;simp|succ k J=>intro B;rw[GW,Xc,J ..,GW,MR];simp
 by_cases h:l.isEmpty=ae
 ·rw[aC h];have:l=#[]:=Array.isEmpty_iff.1 h;subst this;have:∀k,(gQ k ([]:Ld)).flatten=[]:=by intro k;induction k with|zero=>rfl|succ k J=>rw[GW,MR,J];rfl
  rw[E ..,this ..,this ..];rfl
 ·rw[aB h,E ..];rfl
section
variable{C:Cx}{K:FC}{F F':Fz}{ι av:lk}{m m':J}{env:Env}{s s':az}{A:bL}{E:Ar}
theorem DO{o:BO}(h:o.isAdd=ae):o=.add:=by induction o using BO.casesOn<;>first|rfl|exact dG h
theorem ac9{o:BO}(h:o.isMul=ae):o=.mul:=by induction o using BO.casesOn<;>first|rfl|exact dG h
theorem afN(x:FS C K F ι m env s)(e:intOp o a b=aa r):
  wpAny C.md A (binaryOp (Fi o) (.int a t)<|.int b t') (cg C K F ι env (.ok (.int r) m)<|Rl C) E s:=by
 have B:∀(f:Int->Int->Int),f a b=r->cg C K F ι env (.ok (.int r) m) (Rl C) (.int (f a b) s.toks) {s with toks:=s.toks+1}:=λf h=>rws h<|.mk rfl (x.tok _)<|.int _ _;induction o using BO.casesOn with|add=>exact add_int (B (·+·)<|bf e)|sub=>exact sub_int' (B (·-·)<|bf e)|mul=>exact dA e λc e=>mh c λJ M=>mul_int (B (·*·) e) (ak9 J M)|fdiv=>exact dA e λc e=>floordiv_int c.1 (B cU e) (.inl<|PyProof.noPylong_of_log2 c.2)|mod=>exact dA e λc e=>mod_int' c (B bX e)|pow=>exact dA e λc e=>pow_int_small c.2.1 (by have:=c.2.2;lia) (lt_two_pow_of_log2_lt c.1) (B (λa b=>a^b.toNat) e)|shl=>exact dA e λc e=>lshift_int c.2.1 (by have:=Io c.1;have:=c.2.2;lia) (B (λa b=>a*2^b.toNat) e)|shr=>exact dA e λc e=>rshift_int c (B (λa b=>a.fdiv<|2^b.toNat) e)|band=>exact and_int (B GN<|bf e)|bor=>exact or_int (B GO<|bf e)|bxor=>exact xor_int (B MB<|bf e)
theorem Pu(x:FS C K F ι m env s)(r:Rl C F ι v d)(e:rv m d=.tup l):Rl C F ι v (.tup l):=rws (Ao e rfl) r
@[elab_as_elim] theorem Hy{G:ar->Prop}(x:FS C K F ι m env s)(r:Rl C F ι v d)(e:rv m d=.tup l)(k:∀a vs n,s.heap.get? a=aa {cls:=.type "tuple",data:=.seq vs n}->aU C F ι vs.toList l->G (.ref a)):G v:=nE (HM x r e) λa vs n e A B=>rwl e<|k a vs n A B
@[elab_as_elim] theorem OR{G:ar->Prop}(x:FS C K F ι m env s)(r:Rl C F ι v d)(e:rv m d=.lst l)(k:∀a vs n,s.heap.get? a=aa {cls:=.type "list",data:=.seq vs n}->aU C F ι vs.toList l->G (.ref a)):G v:=nE (HL x r e) λa vs n e A B=>rwl e<|k a vs n A B
theorem aU.none{vs:Array ar}(h:aU C F ι vs.toList a)(e:vs.isEmpty=ae):a=[]:=sR<|rws h.size<|aw Array.size<|Array.isEmpty_iff.1 e
theorem aU.app{vs c:Array ar}(h:aU C F ι vs.toList a)(h':aU C F ι c.toList b):aU C F ι (vs++c).toList (a++b):=by rw[aor];exact h.append h'
theorem FS.Rr(x:FS C K F ι m env s)(h:aU C F ι vs.toList ds):
  ∃F',Le F F'/\FS C K F' ι m env {s with heap:=s.heap.push {cls:=.type "tuple",data:=.seq vs}}/\Rl C F' ι (.ref s.heap.objs.size) (.tup ds):=x.El h
theorem FS.afO(x:FS C K F ι m env s)(h:aU C F ι vs.toList ds):
  ∃F',Le F F'/\FS C K F' ι m env {s with heap:=s.heap.push {cls:=.type "list",data:=.seq vs}}/\Rl C F' ι (.ref s.heap.objs.size) (.lst ds):=x.Em h
theorem aU.Qq{vs d:Array ar}(h:aU C F ι vs.toList a)(h':aU C F ι d.toList b)(c:a.length+b.length<=1000):vs.size+d.size<=sizeLine:=iR (h.size▸rwl h'.size (au c (by decide)))
theorem abD{T id:String}(ha:s.TypeIs a T)(hb:s.TypeIs b T)
  (c:fillsNumberSlot (.type T) "add"=pure aq)(d:seqSlot? (.type T) "__add__"=pure (aa<|.builtin id))(slot:uB T "__add__" id)
  (entry:entryFor table id=aa ah)(args:argsOk id ⟨[a,b],[]⟩)(h:∃S,Meets (ah ⟨[a,b],[]⟩) S/\S A (wants Q E) s):wpAny (model prog w) A (binaryOp .Add a b) Q E s:=
 h.elim λS h=>concat_meets ha hb c d slot entry args h.1 h.2
theorem afP(x:FS C K F ι m env s){v u:ar}(hv:Rl C F ι v d)(e:Rl C F ι u j)(hd:rv m d=.tup a)(f:rv m j=.tup b)(c:a.length+b.length<=1000):
  wpAny C.md A (binaryOp .Add v u) (cg C K F ι env (.ok (.tup<|a++b) m)<|Rl C) E s:=by
 have R:=Pu x e f;have S:=Pu x hv hd;revert R S;refine Hy (G:=λv=>Rl C F ι u (.tup b)->Rl C F ι v (.tup a)->wpAny C.md A (binaryOp .Add v u) (cg C K F ι env (.ok (.tup<|a++b) m)<|Rl C) E s) x hv hd λl B n J h2=>Hy (G:=λu=>Rl C F ι u (.tup b)->Rl C F ι (.ref l) (.tup a)->wpAny C.md A (binaryOp .Add (.ref l) u) (cg C K F ι env (.ok (.tup<|a++b) m)<|Rl C) E s) x e f λT M V O X R S=>?_
 refine abD (i12 _ J rfl) (i12 _ O rfl) noFill_tuple_add seq_tuple_add PySem.F.slot_tuple_add PySem.F.entry_tuple_add (PySem.F.args_tuple_add_2 _ _) ?_;by_cases P:B.isEmpty=ae
 ·exact i12 _ (tuple_addW0 l T B M n V ag ag #[] #[] P) (cv J O (by rw[h2.none P];exact .mk rfl x R))
 ·by_cases Y:M.isEmpty=ae
  ·exact i12 _ (tuple_addW1 l T B M n V ag ag #[] #[] P Y) (cv J O (by rw[X.none Y,gC ..];exact .mk rfl x S))
  ·exact i12 _ (tuple_addW2 l T B M n V ag ag #[] #[] P Y<|h2.Qq X c) (cv J O ((x.Rr<|h2.app X).elim λg y=>.mk' rfl y.1 (.refl ι) y.2.1 y.2.2))
theorem afQ(x:FS C K F ι m env s){v u:ar}(hv:Rl C F ι v d)(e:Rl C F ι u j)(hd:rv m d=.lst a)(f:rv m j=.lst b)(c:a.length+b.length<=1000):
  wpAny C.md A (binaryOp .Add v u) (cg C K F ι env (.ok (.lst<|a++b) m)<|Rl C) E s:=
 OR x hv hd λl O n B h2=>OR (G:=λu=>wpAny _ _ (binaryOp _ _ u) _ _ _) x e f λP R S J M=>concat_meets (i12 _ B rfl) (i12 _ J rfl) noFill_list_add seq_list_add PySem.F.slot_list_add PySem.F.entry_list_add (PySem.F.args_list_add_2 _ _) (list_addW l P O R n S ag ag #[] #[] (h2.Qq M c)) (cv B J ((x.afO<|h2.app M).elim λT y=>.mk' rfl y.1 (.refl ι) y.2.1 y.2.2))
theorem afR(x:FS C K F ι m env s)(hv:Rl C F ι v d)(hd:rv m d=.lst a)(c:0<=b/\b<=8/\a.length<=8):
  wpAny C.md A (binaryOp .Mult v<|.int b t') (cg C K F ι env (.ok (.lst (gQ b.toNat a).flatten) m)<|Rl C) E s:=by
 refine nE (HL x hv hd) λl J n O B M=>?_;subst O;have P:=M.length;rw[kX] at P;have R:b.toNat<=8:=by lia
 have e:=Nat.mul_le_mul (by lia:J.size<=8) R;refine wpAny_binaryOp_repeat_ref (T:="list") (U:="int") (by decide) (i12 _ B rfl) (λs'=>W3 s' b t') noFill_list_mul PySem.F.fills_int_mul aos repeat_list PySem.F.slot_int_index.lookup
  (call_meets aos (W3 s b t') PySem.F.entry_int_rmul (PySem.F.args_int_rmul_2 _ _) (int___rmul___int_list b t' l J n)
   ⟨B,rfl,i12 _ B rfl,call_meets PySem.F.slot_list_mul (i12 _ B rfl) PySem.F.entry_list_mul (PySem.F.args_list_mul_2 _ _)
    (AutoListH.list___mul___list_int_3 l J n b t' (by simp[Builtin.List.listFitsIndex];lia) (by lia) (by simp[Builtin.List.listTooLong,sizeLine];exact au (by assumption) (by decide)))
    ⟨B,?_⟩⟩)
 have S:aU C F ι (gQ b.toNat J.toList).flatten (gQ b.toNat a).flatten:=by generalize b.toNat=k;induction k with|zero=>exact .nil|succ k V=>rw[GW,GW,MR,MR];exact M.append V
 refine cA (x.Em S) λf X b2 Y=>?_;rw[<-joined,Xd] at b2;exact .mk' rfl X (.refl ι) b2 Y
theorem afS(x:FS C K F ι m env s)(hv:Rl C F ι v (.str a))(d:Rl C F ι u (.str b))(c:a.length+b.length<=1000):
  wpAny C.md A (binaryOp .Add v u) (cg C K F ι env (.ok (.str<|a++b) m)<|Rl C) E s:=
 tx hv λy t J=>tx (G:=λu=>wpAny _ _ (binaryOp _ _ u) _ _ _) d λB P M=>by
  subst J M;have h:aF (y++B)=aF y++aF B:=by unfold aF;rw[Str.cps_append ..];simp
  exact add_str (λO R=>.mk rfl (x.tok _)<|rws h<|.str (y++B) O) (iR (by simp[aF] at c;unfold Str.length;exact au (by assumption) (by decide)))
theorem afT(x:FS C K F ι m env s)(hv:Rl C F ι v (.bb a))(d:Rl C F ι u (.bb b))(c:a.length+b.length<=1000):
  wpAny C.md A (binaryOp .Add v u) (cg C K F ι env (.ok (.bb<|a++b) m)<|Rl C) E s:=
 Ap hv λy t J=>Ap (G:=λu=>wpAny _ _ (binaryOp _ _ u) _ _ _) d λB P M=>by
  subst J M;have h:cq (y++B)=cq y++cq B:=by unfold cq;simp
  exact KBy.add_bytes (by simp[cq] at c;exact au (by assumption) (by decide)) λO R=>.mk rfl (x.tok _)<|rws h<|.bb (y++B) O
theorem aiO(x:FS C K F ι m env s)(hv:Rl C F ι v d)(f:Rl C F ι u j)(e:iz o (rv m d) (rv m j)=aa r):
  wpAny C.md A (binaryOp (Fi o) v u) (cg C K F ι env (.ok r m)<|Rl C) E s:=by
 generalize P:rv m d=X at e;induction X using V.casesOn with
 |int a=>
  refine gl λR B=>?_;refine cO (show(rv m j).dw.bind (λb=>(intOp o a b.1).map .int)=aa r from e) λb J M=>?_;refine ej M λz Y O=>fB (AJ P▸hv) λt q=>?_;refine fB (rws (AJ J) f) λg S=>?_;refine B ?_;rw[<-O,q,S];exact afN x Y
 |tup a=>
  refine gl λR B=>?_;refine cO (show(rv m j).Fe.bind (λb=>if o.isAdd=ae/\a.length+b.1.length<=1000 then aa (V.tup<|a++b.1) else ag)=aa r from e) λb J M=>?_;refine dA M λc O=>?_;refine B ?_;exact O▸rwl (DO c.1) (afP x hv f P J c.2)
 |str a=>
  refine gl λR B=>?_;refine cO (show(rv m j).oJ.bind (λb=>if o.isAdd=ae/\a.length+b.1.length<=1000 then aa (V.str<|a++b.1) else ag)=aa r from e) λb J M=>?_;refine dA M λc O=>?_;refine B ?_;exact O▸DO c.1▸afS x (rws (AK P) hv) (rws (AK J) f) c.2
 |bb a=>
  refine gl λR B=>?_;refine cO (show(rv m j).Fc.bind (λb=>if o.isAdd=ae/\a.length+b.1.length<=1000 then aa (V.bb<|a++b.1) else ag)=aa r from e) λb J M=>?_;refine dA M λc O=>?_;refine B ?_;exact O▸DO c.1▸afT x (rws (tF P) hv) (rws (tF J) f) c.2
 |lst a=>
  rw[show iz o (.lst a) (rv m j)=cond o.isAdd ((rv m j).t4.bind λb=>if o.isAdd=ae/\a.length+b.1.length<=1000 then aa (V.lst<|a++b.1) else ag) ((rv m j).dw.bind λn=>if o.isMul=ae/\0<=n.1/\n.1<=8/\a.length<=8 then aa (.lst (gQ n.1.toNat a).flatten) else ag) from rfl] at e;induction T:o.isAdd using aS with
  |true=>
   rw[T] at e;refine gl λR B=>?_;refine cO e λb J M=>?_;refine dA M λc O=>?_;refine B ?_;exact O▸rwl (DO T) (afQ x hv f P J c.2)
  |false=>
   rw[T] at e;refine gl λR B=>?_;refine cO e λb J M=>?_;refine dA M λc O=>?_;refine fB (AJ J▸f) λg S=>?_;refine B ?_;rw[<-O,ac9 c.1,S];exact afR x hv P c.2
 |_=>exact bk e
end
end
section
open PySem.SeqAt
theorem anb (h:(match p,q with|some x,aa y=>aa (x&&y)|_,_=>ag)=aa r):∃x y,p=aa x/\q=aa y/\r=(x&&y):=by induction p using aO with|none=>exact bk h|some x=>induction q using aO with|none=>exact bk h|some y=>exact fX x y rfl rfl ((bf h).symm)
theorem Ip(h:eqZ f (a::as) (b::bs)=aa r):∃x y,f a b=aa x/\eqZ f as bs=aa y/\r=(x&&y):=anb h
def xY(f:V->V->Option Bool)(a b:mV)(j:Nat):Bool:=(a[j]?.bind λx=>b[j]?.bind<|f x).getD aq
theorem afU:∀{b}{r},eqZ f a b=aa r->
  (∀(j)(h1:j<a.length)(h2:j<b.length),f a[j] b[j]=aa (xY f a b j))/\r=((gb<|min a.length b.length).all (xY f a b)&&a.length==b.length):=by
 induction a with
 |nil=>
  intro b r h;refine⟨λj h1=>aT h1<|Cu _,?_⟩;rw[show min ([]:mV).length b.length=0 from Nat.zero_min _];induction b using dz with
  |nil=>exact(bf h).symm
  |cons b B=>exact(bf h).symm
 |cons a E M=>
  intro b r h;induction b using dz with
  |nil=>exact⟨λj Z h1=>aT h1<|Cu _,(bf h).symm.trans (by rw[show min (a::E).length ([]:mV).length=0 from Nat.min_zero _];rfl)⟩
  |cons b B=>
   refine cP (iF:=Bool) (Ip h) λx y h1 h2 O=>aW (M h2) λP R=>?_;have J:=h1.trans (aw (λo:Option Bool=>aa<|o.getD aq) h1).symm;refine⟨λj S T=>?_,?_⟩
   ·induction j using qX with
    |zero=>exact J
    |succ j=>exact P j (MS S) (MS T)
   ·rw[O,R,show min (a::E).length (b::B).length=min E.length B.length+1 from Nat.succ_min_succ _ _,List.range_succ_eq_map,List.all_cons,List.all_map,bf<|h1.symm.trans J,Bool.and_assoc ..];exact aw (λz=>xY f (a::E) (b::B) 0&&((gb<|min E.length B.length).all (xY f E B)&&z)) (Bool.eq_iff_iff.mpr ⟨λh=>bO.mpr (aw (·+1)<|bO.mp h),λh=>bO.mpr<|uE<|bO.mp h⟩)
section
variable{C:Cx}{K:FC}{F F':Fz}{ι av:lk}{m m':J}{env:Env}{s s':az}{A:bL}{E:Ar}
theorem aU.get'(h:aU C F ι vs ds)(i)(h1:i<vs.length)(h2:i<ds.length):Rl C F ι vs[i] ds[i]:=
 (h.get<|cT h2).elim λv e=>rwl (bf<|(cT h1).symm.trans e.1) e.2
theorem aU.vo(h:aU C F ι (v::vs) ds):∃d js,ds=d::js/\Rl C F ι v d/\aU C F ι vs js:=by cases h with|cons a b=>exact fX _ _ rfl a b
theorem afV(e:Value.str y t=.str a t'):y=a:=(Value.str.inj e).1
theorem Rt(e:kY a=.ref b)(h:F a=aa o)(h':F b=aa c)(d:o.data=.seq vs n)(f:c.data=.seq g i):vs=g:=by rw[pH e,h'] at h;rw[<-bf h,f] at d;exact(Data.seq.inj d).1.symm
theorem TY{G:Prop}(e:BU d j=aa r)(k1:d=.none->j=.none->ae=r->G)(k2:∀x y,d=.bool x->j=.bool y->(x==y)=r->G)(a:∀x y,d=.int x->j=.int y->(x==y)=r->G)(b:∀x y,d=.str x->j=.str y->(x==y)=r->G):G:=by induction d using V.casesOn with|none=>exact(km e).elim λZ e=>e.elim λh e=>k1 rfl h e|bool x=>exact(km e).elim λy e=>e.elim λh e=>k2 x y rfl h e|int x=>exact(km e).elim λy e=>e.elim λh e=>a x y rfl h e|str x=>exact(km e).elim λy e=>e.elim λh e=>b x y rfl h e|_=>exact bk e
theorem Qr(h1:Rl C F ι v d)(h2:Rl C F ι v j)(e:BU d j=aa r):r=ae:=
 TY e (λZ Z e=>e.symm) (λx y m s e=>e▸bO.mpr (Value.bool.inj<|(om<|rws m h1).symm.trans<|om<|rws s h2))
  (λx y m s e=>fB (rws m h1) λt k1=>fB (rws s h2) λB A=>rws e<|bO.mpr (Value.int.inj<|k1.symm.trans A).1)
  λx y m s e=>tw (rws m h1) λz t k1 q1=>tw (rws s h2) λJ B A E=>rws e<|bO.mpr<|q1.symm.trans<|(aw aF<|afV<|k1.symm.trans A).trans E
theorem Qs(hf:∀{v:ar}{d j:V}{r:Bool},Rl C F ι v d->Rl C F ι v j->f d j=aa r->r=ae)(h:aU C F ι vs ds):∀{js}{r},aU C F ι vs js->eqZ f ds js=aa r->r=ae:=
 h.ind (P:=λvs ds=>∀{js}{r},aU C F ι vs js->eqZ f ds js=aa r->r=ae) (λ{js r} h e=>by
  replace e:=(sR h.length.symm)▸e;exact(bf e).symm) λv d vs ds m Z s js r h e=>cP h.vo λj J q a b=>cP (Ip (q▸e)) λx y A B E=>by
  rw[E,hf m a A,s b B];rfl
theorem ada(n:Nat):∀{v:ar}{d j:V}{r:Bool},Rl C F ι v d->Rl C F ι v j->ib n d j=aa r->r=ae:=by induction n with|zero=>exact Qr|succ n R=>intro v d j r m s e;induction d using V.casesOn with|tup x=>exact(rP e).elim λy e=>e.elim λq e=>iG m.inv λa o S k A B Z E Z J=>iG (show BS C F ι v (.tup y) from q▸s.inv) λT Y b c K M Z O Z P=>Qs R J (rwl (Rt (A.symm.trans K) B M E O) P) e|lst x=>exact(rP e).elim λy e=>e.elim λq e=>iG m.inv λa o S k A B Z E Z J=>iG (show BS C F ι v (.lst y) from rws q s.inv) λT Y b c K M Z O Z P=>Qs R J (rwl (Rt (A.symm.trans K) B M E O) P) e|_=>exact Qr m s e
theorem SR(x:FS C K F ι m env s)(h1:F a=aa o)(h2:o.cls=.type "tuple")(b:o.data=.seq vs n):s.heap.IsTuple a vs:=⟨o,x.st.fz _ _ h1,h2,n,b⟩
theorem Eo(x:FS C K F ι m env s)(h1:F a=aa o)(h2:o.cls=.type "list")(b:o.data=.seq vs n):s.heap.IsList a vs:=⟨o,x.st.fz _ _ h1,h2,n,b⟩
theorem Ep{vs c:Array ar}(hv:aU C F ι vs.toList a)(f:aU C F ι c.toList b)(e:eqZ (ib n) a b=aa r)
  (he:∀{v w:ar}{d j}{r},Rl C F ι v d->Rl C F ι w j->ib n d j=aa r->EqAt A.in1 s v w r):
  (∀(j)(h1:j<vs.size)(h2:j<c.size),EqAt A.in1 s vs[j] c[j] (xY (ib n) a b j))/\r=((gb<|min vs.size c.size).all (xY (ib n) a b)&&vs.size==c.size):=by
 have m:=hv.size;have B:=f.size;refine aW (afU e) λi1 K=>?_;refine⟨λj h1 h2=>?_,by rw[m,B];exact K⟩;have E:=hv.get' j (by simpa using h1)<|rws m h1;have J:=f.get' j (by simpa using h2)<|rws B h2;rw[aot] at E J;exact he E J<|i1 j (rws m h1)<|rws B h2
theorem SU(y a):(y==a)=(aF y==aF a):=Bool.eq_iff_iff.mpr ⟨λh=>bO.mpr<|aw aF<|bO.mp h,λh=>bO.mpr<|j1<|bO.mp h⟩
theorem SV(h1:Rl C F ι v d)(h2:Rl C F ι w j)(e:BU d j=aa r):EqAt A s v w r:=
 TY e (λm B E=>by subst m B E;rw[tv h1,tv h2];exact EqAt.same _) (λx y m B E=>by subst m B E;rw[om h1,om h2];exact EqAt.bool_bool _ _)
  (λx y m B e=>e▸oq (G:=λv=>EqAt A s v w<|x==y) (rws m h1) λt=>oq (G:=λw=>EqAt A s _ w<|x==y) (rws B h2) λJ=>EqAt.int_int _ _ _ _)
  λx y m B e=>e▸tx (G:=λv=>EqAt A s v w<|x==y) (rws m h1) λz t K=>tx (G:=λw=>EqAt A s _ w<|x==y) (rws B h2) λO J M=>by subst K M;rw[<-SU ..];exact EqAt.str_str _ _ _ _
theorem adb(x:FS C K F ι m env s)(p1:F a=aa o)(p2:o.cls=.type "list")(p3:o.data=.seq vs k)(q1:F b=aa d)(q2:d.cls=.type "list")(q3:d.data=.seq c i)(h:a≠b)(e:A.units<cLine)
  (g:∀(j)(h1:j<vs.size)(h2:j<c.size),EqAt A.in1 s vs[j] c[j] (f j)):EqAt A s (.ref a) (.ref b) ((gb<|min vs.size c.size).all f&&vs.size==c.size):=by
 refine EqAt.of_refs h ?_;by_cases B:vs.size=c.size
 ·rw[bO.mpr B,Cv ..,<-B,ML ..];exact RcAt.lists (Eo x p1 p2 p3) (Eo x q1 q2 q3) B e g
 ·rw[beq_eq_false_iff_ne.mpr B,y6 ..];exact RcAt.lists_lengths (Eo x p1 p2 p3) (Eo x q1 q2 q3) (bne_iff_ne.mpr B) e
theorem A6(x:FS C K F ι m env s)(n:Nat):∀{A:bL}{v w:ar}{d j:V}{r:Bool},A.units+n<cLine->Rl C F ι v d->Rl C F ι w j->ib n d j=aa r->EqAt A s v w r:=by
 induction n with
 |zero=>exact λZ=>SV
 |succ n ih=>
  intro A v w d j r i J M e;have l:=bS (cZ _ _) i;have p:A.in1.units+n<cLine:=by rw[MT ..,sF ..];exact i
  have same:v=w->EqAt A s v w r:=λh=>by subst h;rw[ada (n+1) J M e];exact EqAt.same _
  induction d using V.casesOn with
  |tup t=>
   refine(rP e).elim λy e=>e.elim λq e=>iG J.inv λa o u k e1 O p2 P Z R=>iG (show BS C F ι w (.tup y) from rws q M.inv) λb z D G E S T Y Z c=>
    (aou<|a=b).elim (λB=>same<|e1.trans<|(aw kY B).trans E.symm) λB=>aW (Ep (A:=A) (s:=s) R c e<|ih p) λf g=>?_
   rw[g,e1,E];exact EqAt.of_refs B<|RcAt.tuples (SR x O p2 P) (SR x S T Y) l f
  |lst t=>
   refine(rP e).elim λy e=>e.elim λq e=>iG J.inv λa o u k e1 O p2 P Z R=>iG (show BS C F ι w (.lst y) from rws q M.inv) λb z D G E S T Y Z c=>
    (aou<|a=b).elim (λB=>same<|e1.trans<|(aw kY B).trans E.symm) λB=>aW (Ep (A:=A) (s:=s) R c e<|ih p) λf g=>?_
   rw[g,e1,E];exact adb x O p2 P S T Y B l f
  |_=>exact SV J M e
end
end
section
open PySem.SeqAt
section
variable{C:Cx}{K:FC}{F F':Fz}{ι av:lk}{m m':J}{env:Env}{s s':az}{A:bL}{E:Ar}
theorem Z3{a:List (Str×ar)}(hn:(a.map (·.1)).Nodup)(h:(k,y)∈a):valueAt a k=aa y:=by
 unfold valueAt;induction a with|nil=>cases h|cons p r m=>
  have hn:p.1∉r.map (·.1)/\(r.map (·.1)).Nodup:=mW.mp hn;rw[Cw];refine(sS.mp h).elim (λh=>?_) λh=>?_
  ·subst h;rw[decide_eq_true rfl];rfl
  ·rw[decide_eq_false (λe=>hn.1 (rwl e<|List.mem_map.mpr<|i12 _ h rfl):¬p.1=k)];exact m hn.2 h
theorem cn.pairs(h:cn C F ι es ds):∃kvs:List (Str×ar),Pairs (strKind C.prog C.w) es kvs/\kvs.map (λp=>aF p.1)=ds.map (·.1)/\aU C F ι (kvs.map (·.2)) (ds.map (·.2)):=
 cn.ind (P:=λes ds=>∃kvs:List (Str×ar),Pairs (strKind C.prog C.w) es kvs/\kvs.map (λp=>aF p.1)=ds.map (·.1)/\aU C F ι (kvs.map (·.2)) (ds.map (·.2))) (cu ([]) (.nil) rfl<|.nil) (λe x t d es ds m J h Z s=>cA s λkvs A B E=>(cu ((x,e.val)::kvs) (.cons (m▸sP _ _ x t) rfl A) (aw (aF x::·) B)<|.cons h E)) h
theorem Oy(x:FS C K F ι m env s)(r:Rl C F ι v d)(e:rv m d=.aA l)(hn:(l.map (·.1)).Nodup):
  ∃a kvs,v=.ref a/\(a==sysModules)=aq/\s.heap.DictOf (strKind C.prog C.w) a kvs/\kvs.map (λp=>aF p.1)=l.map (·.1)/\aU C F ι (kvs.map (·.2)) (l.map (·.2)):=by
 refine iG (Ih x r e) λa o E n J M O P A R=>cA A.pairs λkvs T B V=>?_;have Y:(kvs.map (·.1)).Nodup:=List.Pairwise.of_map (S:=λa b=>a≠b) aF (λa b h e=>h<|aw aF e) (by rw[iM];exact rwl B hn);exact i25 a kvs J R (Lv o E n M O P (λe c=>fw (A.isStr e<|Array.mem_toList_iff.mpr c) λx t f g=>⟨x,rwl f<|sP _ _ x t,g⟩) T Y) B V
theorem aU.Fj(h:aU C F ι [] ds):ds=[]:=sR h.length.symm
theorem afW{g:List (Str×ar)}(hn:(g.map (·.1)).Nodup)(he:∀{v w:ar}{d j:V}{r:Bool},Rl C F ι v d->Rl C F ι w j->ib 60 d j=aa r->EqAt A s v w r):∀{c:List (Str×ar)}{as bs:mV}{r:Bool},(∀p∈c,p∈g)->f.map (·.1)=c.map (·.1)->
  aU C F ι (f.map (·.2)) as->aU C F ι (c.map (·.2)) bs->eqZ (ib 60) as bs=aa r->KeqHits A s g f r:=by
 induction f with
 |nil=>
  intro c as bs r E m J B e;rw[List.map_eq_nil_iff.mp m.symm] at B;rw[J.Fj,B.Fj] at e;exact rws (bf e) .nil
 |cons p f M=>
  intro c as bs r E m J B e;induction c using dz with
  |nil=>exact BR m
  |cons q c=>
   obtain⟨k,v⟩:=p;refine aW (List.cons.inj m) λK O=>cP (aU.vo J) λa P R S T=>cP (aU.vo B) λb Y h i b2=>?_;rw[R,h] at e;exact cP (Ip e) λx y l n o=>rwl o (.hit (Z3 hn (E (k,q.2) ((show k=q.1 from K)▸.head _))) (he S i l) (M (λp t=>E p<|.tail _ t) O T b2 n))
theorem abE(x:FS C K F ι m env s)(k:A.units+100<cLine)(h1:Rl C F ι v d)(h2:Rl C F ι u j)(e1:rv m d=.aA a)(l:rv m j=.aA b)(e:VK a b=aa r):
  ∃x y g i,v=.ref x/\u=.ref y/\(x==sysModules)=aq/\(y==sysModules)=aq/\s.heap.DictOf (strKind C.prog C.w) x g/\s.heap.DictOf (strKind C.prog C.w) y i/\g.length=i.length/\KeqHits A.in1 s i g r:=by
 refine gl λz R=>?_;refine lg e λc e=>?_;refine K7 (Oy x h1 e1 c.2.1) λp g S T V Y n=>?_;refine K7 (Oy x h2 l<|rws c.1 c.2.1) λo i t B M E J=>?_;refine R ?_;have O:g.map (·.1)=i.map (·.1):=(aow (f:=aF) λx y e=>j1 e).mp (by rw[iM,iM];exact Y.trans (c.1.trans E.symm))
 have P:=aw pJ O;rw[bJ,bJ] at P;exact⟨p,o,g,i,S,t,T,B,V,M,P,M.elim λZ q=>q.elim λZ q=>q.elim λZ q=>afW q.2.2.2.2.2 (A6 x 60 (by rw[MT ..];exact bS (kZ (by decide:1+60<=100) A.units) k)) (λp h=>h) O n J e⟩
theorem or2 (h:(match p,q with|some x,aa y=>aa (x||y)|_,_=>ag)=aa r):∃x y,p=aa x/\q=aa y/\r=(x||y):=by induction p using aO with|none=>exact bk h|some x=>induction q using aO with|none=>exact bk h|some y=>exact fX x y rfl rfl ((bf h).symm)
theorem afX:∀{r},yl v l=aa r->(∀(k)(h:k<l.length),∃b,ib 60 l[k] v=aa b)/\(r=ae<->∃(k:Nat)(h:k<l.length),ib 60 l[k] v=aa ae):=by
 induction l with|nil=>exact λh=>⟨λk h=>aT h<|Cu _,λq=>aT ((bf h).trans q) dq,λ⟨k,h,_⟩=>aT h<|Cu _⟩|cons a l B=>
  intro r h;refine cP (or2 h) λx y h1 C s=>aW (B C) λE A=>⟨λk m=>?_,λq=>?_,λ⟨k,m,q⟩=>?_⟩
  ·induction k using qX with|zero=>exact⟨x,h1⟩|succ k=>exact E k (MS m)
  ·exact(MU _ _▸rws s q:x=ae\/y=ae).elim (λh=>⟨0,qY _,h1.trans<|aw aa h⟩) λh=>(A.mp h).elim λk q=>q.elim λm e=>⟨k+1,WR m,e⟩
  ·refine s.trans<|(MU _ _).mpr ?_;induction k using qX with|zero=>exact .inl (bf<|h1.symm.trans q)|succ k=>exact .inr (A.mpr ⟨k,MS m,q⟩)
theorem Pw(r)(x)(u):Meets (Builtin.«range.__contains__» ⟨[.ref r,.int x u],[]⟩) (λZ R s=>∃a b t1 f i,IsRange s.heap r a b 1 t1 f i/\R (.ok<|.ret<|.bool<|decide<|a<=x/\x<b) s):=by
 refine .of_wp λprog w A R s m=>e52 m λa b t1 f i B h=>?_;have e:(aox a b 1 x).isSome=decide (a<=x/\x<b):=by
  unfold aox;by_cases c:a<=x/\x<b
  ·simp[c]
  ·simp only[show(1:Int)>0 by decide,if_true];have:(decide (a<=x)&&decide (x<b))=aq:=by rw[Bool.eq_false_iff];simpa using c
   rw[this,decide_eq_false c];rfl
 obtain⟨C,g,d,E,os⟩:=s;wp_walk using AutoSeq1.wpAny_loadPart' B;rw[<-e] at h;exact i12 _ rfl h
end
end
section
open PySem.SeqAt
section
variable{C:Cx}{K:FC}{F F':Fz}{ι av:lk}{m m':J}{env:Env}{s s':az}{A:bL}{E:Ar}
noncomputable def Bw:V->Bool|.lst _=>ae|.aA _=>ae|.bar _=>ae|.ref _=>ae|_=>aq
theorem JQ(j):Bw (rv m<|.ref j)=ae:=by
 refine(?_:Bw (match m[j]? with|some (.lst l)=>V.lst l|some (.aA l)=>V.aA l|some (.bar b)=>V.bar b|_=>V.ref j)=ae)
 induction m[j]? using aO with|none=>rfl|some o=>induction o using O.casesOn<;>rfl
theorem Ru(e:rv m d=.none):d=.none:=by induction d using V.casesOn with|ref j=>exact dG ((aw Bw e).symm.trans<|JQ j)|_=>exact e
theorem Rv(e:rv m d=.bool i):d=.bool i:=by induction d using V.casesOn with|ref j=>exact dG ((aw Bw e).symm.trans<|JQ j)|_=>exact e
theorem aiP(e:rv m d=.dW i j k):d=.dW i j k:=by induction d using V.casesOn with|ref j=>exact dG ((aw Bw e).symm.trans<|JQ j)|_=>exact e
theorem ade(y c):(y.toList==c.toList)=(cq y==cq c):=
 Bool.eq_iff_iff.mpr ⟨λh=>bO.mpr<|aw (MV GI)<|bO.mp h,λh=>bO.mpr ((aow λa b h=>UInt8.toNat_inj.mp h).mp<|bO.mp h)⟩
noncomputable abbrev t7(C:Cx)(A:bL)(E:Ar)(v u:ar)(r:Bool)(s:az):Prop:=
 (∀{Q},Q (.bool r) s->wpAny C.md A (compareOp .Eq v u) Q E s)/\∀{Q},Q (.bool !r) s->wpAny C.md A (compareOp .NotEq v u) Q E s
section
variable{v u:ar}{r:Bool}
theorem adf(e1:v=.none)(a:u=.none)(e:ae=r):t7 C A E v u r s:=by subst e1 a e;exact⟨λh=>EqNone.eq_none_none h,λh=>EqNone.ne_none_none h⟩
theorem adg(e1:v=.bool a)(c:u=.bool b)(e:(a==b)=r):t7 C A E v u r s:=by subst e1 c e;exact⟨λh=>eq_bool h,λh=>ne_bool h⟩
theorem afY(h1:Rl C F ι v (.int a))(h2:Rl C F ι u (.int b))(e:(a==b)=r):t7 C A E v u r s:=rws e (fB h1 λt m=>rwl m (fB h2 λB m=>rwl m ⟨λh=>eq_int h,λh=>ne_int h⟩))
theorem afZ(h1:Rl C F ι v (.str a))(h2:Rl C F ι u (.str b))(e:(a==b)=r):t7 C A E v u r s:=
 tw h1 λy t m B=>tw h2 λM O J K=>by subst m J B K e;rw[<-SU ..];exact⟨λh=>eq_str h,λh=>ne_str h⟩
theorem af0(h1:Rl C F ι v (.bb a))(h2:Rl C F ι u (.bb b))(e:(a==b)=r):t7 C A E v u r s:=
 rE h1 λy t m B=>rE h2 λM O J K=>by subst m J B K e;rw[<-ade ..];exact⟨λh=>eq_bytes h,λh=>ne_bytes h⟩
theorem af1(d:A.units<cLine)(p:s.heap.IsList a vs)(q:s.heap.IsList b c)(g:∀(j:Nat)(h1:j<vs.size)(h2:j<c.size),EqAt A.in1 s vs[j] c[j] (f j)):
  t7 C A E (.ref a) (.ref b) ((gb<|min vs.size c.size).all f&&vs.size==c.size) s:=by
 by_cases m:vs.size=c.size
 ·rw[bO.mpr m,Cv ..,<-m,ML ..];exact⟨λh=>eq_listAt p q m d g h,λh=>RcNeAt.lists p q m d g _ _ _ _ h⟩
 ·rw[beq_eq_false_iff_ne.mpr m,y6 ..];exact⟨λh=>eq_list_lengthsAt p q (bne_iff_ne.mpr m) d h,λh=>RcNeAt.lists_lengths p q (bne_iff_ne.mpr m) d _ _ _ _ h⟩
theorem SW(x:FS C K F ι m env s)(c:A.units+100<cLine)(h1:Rl C F ι v d)(h2:Rl C F ι u j)(e:vN m d j=aa r):t7 C A E v u r s:=by
 have i:A.in1.units+60<cLine:=by rw[MT ..];exact bS (kZ (by decide:1+60<=100) A.units) c
 have M:=bS (cZ _ _) c;have Y:∀D,rv m d=D->eqT D (rv m j)=aa r->t7 C A E v u r s:=λD J e=>by
  induction D using V.casesOn with
  |none=>exact(km e).elim λZ e=>e.elim λB e=>adf (tv<|cF (Ru J) h1) (tv<|cF (Ru B) h2) e
  |bool b=>exact(km e).elim λZ e=>e.elim λB e=>adg (om<|cF (Rv J) h1) (om<|cF (Rv B) h2) e
  |int b=>exact(km e).elim λZ e=>e.elim λB e=>afY (cF (AJ J) h1) (cF (AJ B) h2) e
  |str b=>exact(km e).elim λZ e=>e.elim λB e=>afZ (cF (AK J) h1) (cF (AK B) h2) e
  |bb b=>exact(km e).elim λZ e=>e.elim λB e=>af0 (cF (tF J) h1) (cF (tF B) h2) e
  |tup l=>
   refine(rP e).elim λk e=>e.elim λB e=>xi x h1 J λa G O R p2=>xi x h2 B λb H P S f=>aW (Ep (A:=A) (s:=s) p2 f e<|A6 x 60 i) λT g=>?_;rw[g,O,P];exact⟨λh=>eq_tupleAt R S M T h,λh=>RcNeAt.tuples R S M T _ _ _ _ h⟩
  |lst l=>
   refine(rP e).elim λk e=>e.elim λB e=>uK x h1 J λa G O R p2=>uK x h2 B λb H P S f=>aW (Ep (A:=A) (s:=s) p2 f e<|A6 x 60 i) λT g=>?_;rw[g,O,P];exact af1 M R S T
  |aA l=>
   refine(rP e).elim λk e=>e.elim λB e=>(abE (A:=A) x c h1 h2 J B e).elim λp z=>z.elim λq z=>z.elim λL z=>z.elim λN z=>VG z λO P n o t w I y=>?_;rw[O,P];have b5:=bO.mpr I;exact⟨λh=>keq_eq n o t w M (λZ=>y) (by rw[b5,MW ..];exact h),λh=>keq_ne n o t w M (λZ=>y) (by rw[b5,MW ..];exact h)⟩
  |_=>exact bk e
 exact Y _ rfl e
end
noncomputable abbrev Bx(C:Cx)(A:bL)(E:Ar)(v u:ar)(r:Bool)(s:az):Prop:=
 (∀{Q},(∀t,Q (.bool r) {s with toks:=t})->wpAny C.md A (compareOp .In v u) Q E s)/\∀{Q},(∀t,Q (.bool !r) {s with toks:=t})->wpAny C.md A (compareOp .NotIn v u) Q E s
theorem aiQ(x:FS C K F ι m env s)(g:A.in1.units+60<cLine)(h1:Rl C F ι v d)(h2:Rl C F ι u j)(z:rv m j=.tup l)(e:yl d l=aa r):Bx C A E v u r s:=by
 refine xi x h2 z λa O D V p2=>rwl D (aW (afX e) λG H=>?_);have M:=p2.length;rw[kX] at M;let P:ar->Prop:=λy=>∃(k:Nat)(B:k<l.length),O.toList[k]?=aa y/\ib 60 l[k] d=aa ae;let f:ar->Bool:=λy=>@decide (P y)<|nO _;have Y:∀y,y∈O->EqAt A.in1 s y v (f y):=by
  intro y I;obtain⟨k,B,n⟩:=Array.mem_iff_getElem.mp I;have R:=M▸B;by_cases c:P y
  ·rw[show f y=ae from@decide_eq_true _ (nO _) c];obtain⟨S,J,L,T⟩:=c;refine bo (p2.get (i:=S)<|cT J) λw o N=>?_;rw[L] at o;(have Q:=bf o;subst Q);exact A6 x 60 g N h1 T
  ·rw[show f y=aq from@decide_eq_false _ (nO _) c];refine bu (G k R) λb p=>?_;have q:=p2.get' k (by rw[kX];exact B) R;rw[aot,n] at q;induction b using aS with|true=>exact aT ⟨k,R,by rw[yX,MX B,n],p⟩ c|false=>exact A6 x 60 g q h1 p
 have t:O.any f=r:=by
  rw[Bool.eq_iff_iff,H,Array.any_eq_true];constructor
  ·rintro ⟨k,B,J⟩
   obtain⟨S,J,_,T⟩:=@of_decide_eq_true _ (nO _) J;exact⟨S,J,T⟩
  ·rintro ⟨k,B,c⟩
   refine⟨k,rwl M B,@decide_eq_true _ (nO _) ⟨k,B,?_,c⟩⟩;rw[yX,MX<|rwl M B]
 exact⟨λh=>in_tupleAt f V Y (by rw[t];exact h s.toks),λh=>notIn_tupleAt f V Y (by rw[t];exact h s.toks)⟩
theorem aiR(x:FS C K F ι m env s)(h1:Rl C F ι v (.str y))(h2:Rl C F ι u j)(b:rv m j=.aA l):Bx C A E v u (look y l).isSome s:=
 tx h1 λB t q=>HO x h2 b λa o P n R S T J M=>
  have O:=Kv (C:=C) R S T J;have V:(pI sO P B).isSome=(look y l).isSome:=q▸(J.findBy B).elim (λq=>cP q λv d Y c Z=>by rw[Y,c];rfl) λg=>by rw[g.1,g.2];rfl
  rws V ⟨λh=>wpAny_in_of (sP _ _ B t) M O<|h _,λh=>wpAny_notIn_of (sP _ _ B t) M O<|h _⟩
theorem aiS(x:FS C K F ι m env s)(h1:Rl C F ι v (.int n))(h2:Rl C F ι u (.ref k))(q:m[k]?=aa (.bW l)):Bx C A E v u (gp n l).isSome s:=
 oq h1 λt=>iG (Il x h2 q) λa o O c P R S T B J=>P▸
  have M:=UL (C:=C) R S T.1 B;have V:(pI mU O n).isSome=(gp n l).isSome:=(B.findBy n).elim (λq=>cP q λv d Y b Z=>by rw[Y,b];rfl) λg=>by rw[g.1,g.2];rfl
  rws V ⟨λh=>wpAny_in_of (wB _ _ n t) J.1 M<|h _,λh=>wpAny_notIn_of (wB _ _ n t) J.1 M<|h _⟩
theorem aiT(x:FS C K F ι m env s)(h1:Rl C F ι v (.int n))(h2:Rl C F ι u (.dW i k 1)):Bx C A E v u (decide<|i<=n/\n<k) s:=by
 refine fB h1 λt J=>rwl J (VI h2.inv λa Z Z Z J M=>rwl J ?_);have B:=x.st.fz _ _ M;exact⟨λh=>SeqRoads2.in_meets (i12 _ B rfl) aoy aoz (aoA _ _) (Pw _ n t) ⟨_,_,_,_,_,B,_,rfl,h s.toks⟩,
  λh=>SeqRoads2.notIn_meets (i12 _ B rfl) aoy aoz (aoA _ _) (Pw _ n t) ⟨_,_,_,_,_,B,_,rfl,h s.toks⟩⟩
theorem TZ(x:FS C K F ι m env s)(a:A.units+100<cLine)(h1:Rl C F ι v d)(h2:Rl C F ι u j)(e:qn m d j=aa r):Bx C A E v u r s:=by
 have M:A.in1.units+60<cLine:=by rw[MT ..];exact bS (kZ (by decide:1+60<=100) A.units) a
 unfold qn at e;generalize J:rv m j=D at e;induction D using V.casesOn with|tup l=>exact aiQ x M h1 h2 J e|aA l=>exact(km e).elim λy e=>e.elim λB e=>rws e (aiR x (cF B h1) h2 J)|dW i k st=>exact(rP e).elim λn e=>e.elim λB e=>dA e λc e=>e▸aiT x (cF B h1) (cF (rws c<|aiP J) h2)|ref k=>exact(rP e).elim λn e=>e.elim λB e=>(km e).elim λl e=>e.elim λq e=>rws e (aiS x (cF B h1) (cF (SI J) h2) q)|_=>exact bk e
noncomputable def Fk:CO->CmpOp|.eq=>.Eq|.ne=>.NotEq|.lt=>.Lt|.le=>.LtE|.gt=>.Gt|.ge=>.GtE|.is=>.Is|.tM=>.IsNot|.mem=>.In|.lu=>.NotIn
theorem Px(r:Rl C F ι v d):(v==.none)=d.rO.isSome:=by cases r<;>rfl
theorem DP(h1:Rl C F ι v d)(h2:Rl C F ι u j)(e:Bq f d j=aa r){G:Prop}(kk:∀a b t t',v=.int a t->u=.int b t'->r=.bool (f a b)->G):G:=by refine cO e λa m e=>?_;subst m;refine vm e λb s e=>?_;subst s;exact fB h1 λt A=>fB h2 λt' B=>kk a b t t' A B e.symm
theorem SX(x:FS C K F ι m env s)(c:A.units+100<cLine)(h1:Rl C F ι v d)(h2:Rl C F ι u j)(e:fF m o d j=aa r){Q:Ar}(h:∀b t,r=.bool b->Q (.bool b) {s with toks:=t}):
  wpAny C.md A (compareOp (Fk o) v u) Q E s:=by
 induction o using CO.casesOn with
 |eq=>
  exact ej e λb B e=>(SW x c h1 h2 B).1<|h b s.toks e.symm
 |ne=>
  exact ej e λb B e=>(SW x c h1 h2 B).2<|h _ s.toks e.symm
 |mem=>
  exact ej e λb B e=>(TZ x c h1 h2 B).1 λt=>h b t e.symm
 |lu=>
  exact ej e λb B e=>(TZ x c h1 h2 B).2 λt=>h _ t e.symm
 |is=>
  refine iX (km e) λZ O e=>?_;rw[tv<|cF O h2];refine is_none ?_;rw[Px h1];exact h _ s.toks (e.symm.trans (by induction d.rO.isSome using aS<;>rfl))
 |tM=>
  refine iX (km e) λZ O e=>?_;rw[tv<|cF O h2];refine isNot_none ?_;rw[Px h1];exact h _ s.toks (e.symm.trans (by induction d.rO.isSome using aS<;>rfl))
 |lt=>
  exact DP (f:=λa b=>decide<|a<b) h1 h2 e λa b t P J M k=>rwl J<|rwl M<|lt_int<|h _ s.toks k
 |le=>
  exact DP (f:=λa b=>decide<|a<=b) h1 h2 e λa b t P J M k=>rwl J<|rwl M<|le_int<|h _ s.toks k
 |gt=>
  exact DP (f:=λa b=>decide<|b<a) h1 h2 e λa b t P J M k=>rwl J<|rwl M<|gt_int<|h _ s.toks k
 |ge=>
  exact DP (f:=λa b=>decide<|b<=a) h1 h2 e λa b t P J M k=>rwl J<|rwl M<|ge_int<|h _ s.toks k
theorem adh(e:fF m o d j=aa r):∃b,r=.bool b:=by
 have s:∀{α:Type}{f:α->Bool}{p:Option α},p.map (λa=>V.bool<|f a)=aa r->∃b,r=.bool b:=λe=>by exact ej e λb Z e=>⟨_,e.symm⟩
 induction o using CO.casesOn with|eq=>exact s (f:=id) e|ne=>exact s e|mem=>exact s (f:=id) e|lu=>exact s e|is=>exact s e|tM=>exact s e|_=>exact cO e λa Z e=>s e
end
end
section
open PySem.SeqAt
section
variable{X:Fx}{m:J}
theorem cI.room(h:cI n A l):A.units+100<cLine:=by have:=h.LC;unfold cLine;lia
theorem aiU(ho:Fi o=c)(h:SE X a d)(hi:SE X b j):SE X (.BinOp a c b pos) (.bin o d j):=.intro λ{_ _ _ _ E _ _ _ _ _} O M x B J e S=>P.aiv (h.cC O M x (f:=λv m=>R.bind (bI X.ok X.κ E m j) λu m=>oR (iz o (rv m v)<|rv m u) m) B J S λv d m F ι s B T l2 x r=>hi.cC O M x B J (S.up T l2) λu j m F ι s B V Y x g=>sk B J (e.up (T.trans V)<|l2.trans Y) λw q=>rws ho<|aiO x (r.mono V Y) g q)
theorem aiV(ho:Fk o=c)(h:SE X a d)(hi:SE X b j)(hm:behindInMarks c b=aq):SE X (.Compare a [c] [b] pos) (.cmp o d j):=.intro λ{_ _ _ _ E _ _ _ _ _} O J x B M g S=>P.ac1 (h.cC O J x (f:=λv m=>R.bind (bI X.ok X.κ E m j) λu m=>oR (fF m o v u) m) B M S λv d m F ι s B T l2 x r=>hi.cC O J x B M (S.up T l2) λu j m F ι s B V Y x i=>sk B M (g.up (T.trans V)<|l2.trans Y) λw q=>ho▸SX x J.room (r.mono V Y) i q λb t e=>rwl e<|.mk rfl (x.tok t)<|.bool b) hm
theorem af2{j:J->R V}:fc (R.bind x λv m=>R.bind (j m) λu m=>oR (fF m o v u) m)=R.bind x λv m=>R.bind (j m) λu m=>oR (fF m o v u) m:=by
 induction x using R.casesOn with
 |ok v m1=>
  dsimp only[R.bind];induction j m1 using R.casesOn with
  |ok u B=>
   dsimp only;induction q:fF B o v u using aO with
   |none=>rfl
   |some r=>exact(adh q).elim λb e=>rwl e rfl
  |_=>rfl
 |_=>rfl
theorem aiW(ho:Fk o=c)(h:SE X a d)(hi:SE X b j)(hm:behindInMarks c b=aq):SB X (.Compare a [c] [b] pos) (.cmp o d j):=.intro λ{_ _ _ _ E _ _ _ _ _} O J x B M Y R=>P.Z0 (h.cC O J x (af2 (j:=λm=>bI X.ok X.κ E m j).symm.trans B) M R λv d m F ι s B S l2 x r=>hi.cC O J x B M (R.up S l2) λu j m F ι s B T V x f=>(SN B M).elim λw q=>rws ho (P.of (SX x J.room (r.mono T V) f q.1 λb t e=>P.of<|GU<|(Y.up (S.trans T)<|l2.trans V).at q.2 (x.tok t) e))) hm
noncomputable def UN(v:V)(m:J):R V:=match v with|.int i=>.ok (.int<|-i) m|_=>.H
theorem af3(hr:UN d m=r)(hb:r≠.H):∃i,d=.int i/\.ok (.int<|-i) m=r:=by induction d using V.casesOn with|int i=>exact i12 i rfl hr|_=>exact aT hr.symm hb
theorem aiX(h:SE X a d):SE X (.UnaryOp .USub a pos) (.neg d):=.intro λO J x B E hQ M=>P.UnaryOp_ (h.cC O J x (f:=UN) B E M λv d m F ι s B R S x r=>(af3 B E).elim λi e=>oq (G:=λv=>aD _ _ (unaryOp _ v) _ _ _) (rws e.1 r) λt=>P.of<|aoB<|hQ.at' e.2 R S (x.tok _)<|.int _ _)
inductive cE{α β:Type}(P:α->β->Prop):List α->List β->Prop where|nil:cE P [] []|cons{a b as bs}(h:P a b)(r:cE P as bs):cE P (a::as) (b::bs)
noncomputable def Fq(k:J->R V)(v:V)(m:J):R V:=match v with|.bool ae=>k m|.bool aq=>.ok (.bool aq) m|_=>.H
noncomputable def FW(k:J->R V)(v:V)(m:J):R V:=match v with|.bool aq=>k m|.bool ae=>.ok (.bool ae) m|_=>.H
theorem af4(hr:Fq k d m=r)(hb:r≠.H):∃b,d=.bool b/\cond b (k m) (.ok (.bool aq) m)=r:=by induction d using V.casesOn with|bool b=>exact i12 b rfl (by induction b using aS<;>exact hr)|_=>exact aT hr.symm hb
theorem aiY(hr:FW k d m=r)(hb:r≠.H):∃b,d=.bool b/\cond b (.ok (.bool ae) m) (k m)=r:=by induction d using V.casesOn with|bool b=>exact i12 b rfl (by induction b using aS<;>exact hr)|_=>exact aT hr.symm hb
theorem af5:fc (R.bind x<|Fq k)=R.bind (fc x) (Fq λm=>fc<|k m):=by
 induction x using R.casesOn with
 |ok v m=>induction v using V.casesOn with
  |bool b=>induction b using aS<;>rfl
  |_=>rfl
 |_=>rfl
theorem aiZ:fc (R.bind x<|FW k)=R.bind (fc x) (FW λm=>fc<|k m):=by
 induction x using R.casesOn with
 |ok v m=>induction v using V.casesOn with
  |bool b=>induction b using aS<;>rfl
  |_=>rfl
 |_=>rfl
theorem Rx:fc (fc x)=fc x:=by induction x using R.casesOn with|ok v m=>induction v using V.casesOn<;>rfl|_=>rfl
theorem SY(h:SE X e d)(hd:∀env m,bI X.ok X.κ env m a=R.bind (bI X.ok X.κ env m d) Bt)(he:∀env,eval (.BoolOp c [e] pos) env=eval e env):SE X (.BoolOp c [e] pos) a:=.intro λ{K F ι m env s A r Q E} O M x B J P S=>he K.p▸h.cC O M x (f:=Bt) ((hd env m).symm.trans B) J S λv d m F ι s B T V x y=>(Rk B J).elim λb e=>P.at' e.2 T V x<|rws e.1 y
theorem ai0(hs:cE (SE X) es ds):SE X (.BoolOp .And es pos) (.and ds):=by induction hs with|nil=>exact λZ Z Z Z Z Z Z Z Z Z B=>aT rfl B|@cons _ d _ ds h r V=>cases r with|nil=>exact SY h (λZ Z=>rfl) λZ=>rfl|cons Y r=>exact .intro λ{_ _ _ _ E _ _ _ _ _} O S x J B hQ T=>P.BoolOp_and (h.cC O S x (f:=Fq λm=>bI X.ok X.κ E m<|.and _) J B T λv d m F ι s J M R x y=>(af4 J B).elim λb e=>om (e.1▸y)▸P.of (GU (match b,e.2 with|false,e=>hQ.at' e M R x (.bool aq)|true,e=>V.nk O S x e B (T.up M R)<|hQ.up M R)))
theorem alb(hs:cE (SE X) es ds):SE X (.BoolOp .Or es pos) (.or ds):=by induction hs with|nil=>exact λZ Z Z Z Z Z Z Z Z Z B=>aT rfl B|@cons _ d _ ds h r V=>cases r with|nil=>exact SY h (λZ Z=>rfl) λZ=>rfl|cons Y r=>exact .intro λ{_ _ _ _ E _ _ _ _ _} O S x J B hQ T=>P.BoolOp_or (h.cC O S x (f:=FW λm=>bI X.ok X.κ E m<|.or _) J B T λv d m F ι s J M R x y=>(aiY J B).elim λb e=>om (e.1▸y)▸P.of (GU (match b,e.2 with|true,e=>hQ.at' e M R x (.bool ae)|false,e=>V.nk O S x e B (T.up M R)<|hQ.up M R)))
theorem SB.nk{K:FC}(h:SB X e d)(O:X.Of K)(a:cI X.lv A K.all)(x:FS X.C K F ι m env s)(hr:fc (bI X.ok X.κ env m d)=r)(hb:r≠.H)(hE:eL X.C K F ι env r c)(hQ:jg X.C K F ι env r (λZ Z b d=>d=.bool b) Q):aD X.C.md A (isTrue e K.p<|eval e K.p) Q c s:=by subst hr;exact P.mono (h K F ι m env s A O a x hb) hQ hE
section
variable{M:mS}{A:bL}{x:bj}{rest:List bj}{env:gA}{pos:Pos}{w:Sem ar}{Q:Bool->az->Prop}{E:Ar}{s:az}
theorem Ry(h:aD M A (isTrue x env<|eval x env) (λc a=>aD M A (if c=ae then allTrue .And rest env else pure aq) Q E a) E s):aD M A (isTrue (.BoolOp .And (x::rest) pos) env w) Q E s:=by rw[arm_isTrue_BoolOp ..,arm_allTrue_cons ..];exact P.bind (P.mono h (λc a m=>by induction c using aS<;>exact m) λZ Z y=>y)
theorem S3(h:aD M A (isTrue x env<|eval x env) (λc a=>aD M A (if c=ae then pure ae else allTrue .Or rest env) Q E a) E s):aD M A (isTrue (.BoolOp .Or (x::rest) pos) env w) Q E s:=by rw[arm_isTrue_BoolOp ..,arm_allTrue_cons ..];exact P.bind (P.mono h (λc a m=>by induction c using aS<;>exact m) λZ Z y=>y)
end
theorem ai1(hs:cE (SB X) es ds):SB X (.BoolOp .And es pos) (.and ds):=by
 induction hs with
 |nil=>exact λZ Z Z Z Z Z Z Z Z Z E=>aT rfl E
 |@cons e _ es ds h r T=>cases r with
  |nil=>exact .intro λO J x B E hQ M=>Ry (h.nk O J x (Rx.symm.trans B) E M λv s y=>match v with
    |true=>P.pure<|hQ _ _ y
    |false=>P.pure<|hQ _ _ y)
  |@cons V _ es _ Y r=>exact .intro λO J x B E hQ M=>Ry (h.cC O J x (af5.symm.trans B) E M λv m F ι s B R S x=>match v,B with
    |true,B=>T.nk O J x B E (M.up R S)<|hQ.up R S
    |false,B=>P.pure<|hQ.at' B R S x rfl)
theorem alc(hs:cE (SB X) es ds):SB X (.BoolOp .Or es pos) (.or ds):=by
 induction hs with
 |nil=>exact λZ Z Z Z Z Z Z Z Z Z E=>aT rfl E
 |@cons e _ es ds h r T=>cases r with
  |nil=>exact .intro λO J x B E hQ M=>S3 (h.nk O J x (Rx.symm.trans B) E M λv s y=>match v with
    |true=>P.pure<|hQ _ _ y
    |false=>P.pure<|hQ _ _ y)
  |@cons V _ es _ Y r=>exact .intro λO J x B E hQ M=>S3 (h.cC O J x (aiZ.symm.trans B) E M λv m F ι s B R S x=>match v,B with
    |false,B=>T.nk O J x B E (M.up R S)<|hQ.up R S
    |true,B=>P.pure<|hQ.at' B R S x rfl)
theorem ai2:fc (R.bind x<|bR a b)=R.bind x (bR (λm=>fc<|a m) λm=>fc<|b m):=by
 induction x using R.casesOn with
 |ok v m=>induction v using V.casesOn with
  |bool b=>induction b using aS<;>rfl
  |_=>rfl
 |_=>rfl
theorem ai3{dt e f:E}(g:SB X t dt)(ha:SB X a e)(d:SB X b f):SB X (.IfExp t a b pos) (.ite dt e f):=.intro λ{K F ι m V s A r Q E} O R x B S hQ T=>P.bind (g.cC O R x (SO.symm.trans<|ai2.symm.trans B) S T λc m F ι s B J M x=>match c,B with|true,B=>ha.nk O R x B S (T.up J M) (hQ.up J M)|false,B=>d.nk O R x B S (T.up J M)<|hQ.up J M)
end
end
section
open PySem.SeqAt
section
variable{X:Fx}
theorem adi(pos)(l):(backTo pos l).any (·.1)=l.any (·.1):=by rw[List.any_map];rfl
theorem all_cons(h:(e::es).all gS=ae):gS e=ae/\es.all gS=ae:=Bool.and_eq_true_iff.mp h
theorem Hz(env)(pos)(h:es.all gS=ae):(backTo pos<|starEach es env).any (·.1)=aq:=by rw[adi ..];induction es with|nil=>rfl|cons e es B=>rw[zw (all_cons h).1,W0,B (all_cons h).2];rfl
theorem Hs(hp:es.all gS=ae)
  (h:aD M A (spliced<|backTo pos<|starEach es env) (λvs a=>Q ⟨vs,[]⟩ a) Ex s):aD M A (evalArgs f ae (backTo pos<|starEach es env) []) Q Ex s:=by
 induction es using dz with|nil=>exact λΓ p B g=>evalArgs_nil3 (M:=M) (A:=A) (E:=Ex) (f:=f) (h Γ p B g) Γ p B|cons e es=>rw[zw (all_cons hp).1] at h⊢;exact P.evalArgs_plain h
noncomputable def T1(k:Nm->J->R V)(g:V)(m:J):R V:=match g with|.fn x=>k x m|_=>.H
theorem adj(hr:T1 k d m=r)(hb:r≠.H):∃x,d=.fn x/\k x m=r:=by induction d using V.casesOn with|fn x=>exact i12 x rfl hr|_=>exact aT hr.symm hb
theorem af6(W:X.Wf)(hf:SE X (.Name f o) p)(h:lI X es ds)(hp:es.all gS=ae):SE X (.Call (.Name f o) es [] pos) (.call p ds):=.intro λ{K F ι m S s A r Q E} O T x B M t hE=>P.Call_Name (hf.cC O T x (f:=T1 λg m=>R.bind (jH X.ok X.κ S m ds) λV m=>X.κ g V m) B M hE λv d m F ι s B Y a x y=>by refine bo (adj B M) λg u B=>?_;refine gx ((u▸y).inv) λZ Z w z D G=>?_;refine rwl w ?_;refine P.callWith_of (K:=X.C.K) (P:=λh=>X.C.K.In h) (Hz _ _ hp) (keeps_K G) (Hs hp (h.cC O T x B M (hE.up Y a) λV ds m F ι s B i j x H=>⟨x.i4,P.call (P.qa (W.VO _ ds m F ι s V A _ _ T (x.fx O) x.wd x.st.start H (by rw[<-z,rk ..];exact D) (λe=>M (B▸e))) λr I q=>match q with|.ok v d k l n e b J c=>rwl e (t.at' (b.symm.trans B) ((Y.trans i).trans J.f0) ((a.trans j).trans J.i0) (x.after J) c)|.ex e why k l n h b J c=>rwl h<|hE _ _ ⟨why,k,l,n,B.symm.trans b,(Y.trans i).trans J.f0,(a.trans j).trans J.i0,x.aiy O J c⟩)⟩)))
end
end
section
open PySem.SeqAt
section
variable{C:Cx}{K:FC}{F F':Fz}{ι av:lk}{m m':J}{env:Env}{s s':az}{A:bL}{E:Ar}
theorem adk(e:intsOf (d::ds)=aa is):∃i js,d=.int i/\intsOf ds=aa js/\i::js=is:=by induction d using V.casesOn with|int i=>exact ej e λjs m s=>fX i js rfl m s|_=>exact bk e
theorem aaE(h:aU C F ι vs ds):∀{is},intsOf ds=aa is->wD vs is:=
 h.ind (P:=λvs ds=>∀{is},intsOf ds=aa is->wD vs is) (λe=>rws (bf e) .nil) λv d vs ds h Z ih is e=>by refine cP (adk e) λi B s A m=>rws m (fB (rws s h) λt m=>?_);refine rwl m ?_;exact .cons i t<|ih A
theorem af7(e:oA (d::ds)=aa bs):∃(i:Nat)(js:z0),d=.int i/\i<256/\oA ds=aa js/\i::js=bs:=by
 induction d using V.casesOn with
 |int i=>
  by_cases c:0<=i/\i<256
  ·exact ej ((aC c).symm.trans e) λjs m s=>jP i.toNat js (by rw[W9 c.1]) ((Int.toNat_lt c.1).mpr c.2) m s
  ·exact bk<|(aB c).symm.trans e
 |_=>exact bk e
theorem abF(h:aU C F ι vs ds):∀{bs},oA ds=aa bs->wD vs (bs.map λb:Nat=>(b:Int))/\∀b∈bs,b<256:=
 h.ind (P:=λvs ds=>∀{bs},oA ds=aa bs->wD vs (bs.map λb:Nat=>(b:Int))/\∀b∈bs,b<256) (λe=>rws (bf e) ⟨.nil,λZ h=>nomatch h⟩) λv d vs ds h Z s bs e=>by refine gx (af7 e) λi K B E A m=>rws m (fB (rws B h) λt m=>?_);refine rwl m ?_;exact⟨.cons i t (s A).1,λb J=>(sS.mp J).elim (λq=>rwl q E)<|(s A).2 b⟩
theorem aU.JR{vs:Array ar}(h:aU C F ι vs.toList ds)(hl:ds.length<=1000000):vs.size<=sizeLine:=iR<|rwl h.size hl
theorem ai4(x:FS C K F ι m env s)(r:Rl C F ι v d)(e:UI (rv m d)=aa n)(hn:n<=1000000):
  wpAny C.md A (call (.builtin "len") [v]) (cg C K F ι env (.ok (.int n) m)<|Rl C) E s:=by
 generalize B:rv m d=P at e;have q:∀{k:Nat}{t R},k=n->cg C K F ι env (.ok (.int n) m) (Rl C) (.int k t) {s with toks:=R}:=λe=>rws e<|.mk rfl (x.tok _)<|.int _ _;induction P using V.casesOn with
 |tup l=>exact HN x r B λa S J hl=>PyProof.Rows.len_tuple J (by rw[hl.size,bf e];lia)<|q<|hl.size.trans<|bf e
 |lst l=>exact xj x r B λa S J hl=>PyProof.Rows.len_list J (by rw[hl.size,bf e];lia)<|q<|hl.size.trans<|bf e
 |bb l=>exact Ap (cF (tF B) r) λy t M=>
   have hl:=(show(cq y).length=y.size by simp[cq]).symm.trans<|rwl M<|bf e
   len_bytes (by rw[hl];exact au (by assumption) (by decide)) (q hl)
 |bar l=>exact HP x r B λa o b T Y c M=>
   have hl:=(show(cq b).length=b.size by simp[cq]).symm.trans<|rws M<|bf e;have O:lz s.heap a b:=cu o T Y c
   call_len_meets (n:=(b.size:Int)) O.typeIs BF.Z1 BF.Zr (BF.Z2 _) (afw a) (by lia) (by rw[hl];lia) (λf h=>i12 b O h) (q hl)
 |_=>exact bk e
theorem IZ(x:FS C K F ι m env s):cg C K F ι env (.ok (.dW i j k) m) (Rl C) (.ref s.heap.objs.size) {s with heap:=s.heap.push {cls:=.type "range",data:=.fields #[.int i t,.int j u,.int k v]},toks:=a}:=
 .mk' rfl x.new.2 (.refl ι) (x.new.1.tok a) (.dW<|Fz.m6 ..)
theorem abG(h:wD vs is):∃xs:List (Int×Tok),vs=xs.map (λp=>Value.int p.1 p.2)/\xs.map (·.1)=is:=by induction h with|nil=>exact i12 ([]) rfl rfl|cons n t r m=>exact bo m λxs s A=>i12 ((n,t)::xs) (aw (Value.int n t::·) s) (aw (n::·) A)
theorem ai5(x:FS C K F ι m env s)(hh:A.handled=ag)(r:Rl C F ι v d)(hd:rv m d=.lst l)(e:intsOf l=aa is):
  wpAny C.md A (call (.builtin "sum") [v]) (cg C K F ι env (.ok (.int is.sum) m)<|Rl C) E s:=
 xj x r hd λa J B M=>bo (abG<|aaE M e) λO P R=>by rw[show J=intItems O.toArray by unfold intItems;rw[List.map_toArray,<-P,Xd]] at B;refine sum_intListG hh B λT V Y S=>.mk rfl (x.grow S) ?_;rw[preSum_eq ..,R.symm,sQ (by simp)];exact .int _ _
theorem adl(x:FS C K F ι m env s)(r:Rl C F ι v d)(hd:rv m d=.lst l)(hl:l.length<=1000000):
  wpAny C.md A (call (.type "tuple") [v]) (cg C K F ι env (.ok (.tup l) m)<|Rl C) E s:=
 xj x r hd λa M B hr=>call_tuple_list B (λO J=>((x.grow (t:=s.toks) J).Rr hr).elim λP y=>.mk' rfl y.1 (.refl ι) y.2.1 y.2.2)<|hr.JR hl
theorem af8(h:∀b∈bs,b<256):cq (byteArr (bs.map λb:Nat=>(b:Int)))=bs:=by unfold cq byteArr;simp only[iM];exact(GX λb m=>(wF (h b m):b%256=b)).trans (List.map_id bs)
theorem Y6(x:FS C K F ι m env s)(hh:A.handled=ag)(r:Rl C F ι v d)(hd:rv m d=.lst l)(e:oA l=aa bs)(hl:l.length<=1000000):
  wpAny C.md A (call (.type "bytes") [v]) (cg C K F ι env (.ok (.bb bs) m)<|Rl C) E s:=
 xj x r hd λa vs M B=>aW (abF B e) λO J=>call_bytes_ints (vs:=vs.toList) (by rw[Xd];exact M) O (λn P=>by refine j8 P λb R S=>rws S ?_;have:=J b R;lia) (by rw[kX];exact B.JR hl) hh λY t k T=>.mk rfl (x.grow T)<|cF (aw V.bb<|af8 J)<|.bb _ t
end
end
end
section
open PySem PySem.Calls PySem.W PyProof.Rows
open Sem (wp)
namespace P
section
variable{prog:fO}{w:eh}{A:bL}{E:Ar}{s:az}
theorem Ht{id:String}{R:gP->az->Prop}(hk:qE (.builtin id args)=ae)(hb:entryFor table id=aa b)
  (h:aD (model prog w) (A.under<|.builtin id args) (b args)
   (λfin a=>match fin with|.done f=>R (.ok f) a|.again c'=>c'.quiet=ae/\cM (model prog w) A c' R a) (λe a=>R (.error e) a) s):
  cM (model prog w) A (.builtin id args) R s:=by
 refine ll hk ?_;refine(?_:aD _ _ (match entryFor table id with|some b=>b args|none=>unsupported<|(withoutEnding? id "#data").getD id) _ _ s);rw[hb];exact h
theorem abH{T newId g:String}(a:TypeCalled T newId g)(i:checkTypeCall T ⟨args,[]⟩=nN ())
  (Kw:cM (model prog w) A.in1 (.call (.builtin newId) ⟨.type T::args,[]⟩) (wants Q₁ E) s)
  (f:∀obj d,Q₁ obj d->d.TypeIs obj T/\cM (model prog w) A.in1 (.call (.builtin g) ⟨obj::args,[]⟩) (wants (λr h=>r=.none/\Q obj h) E) d):
  aD (model prog w) A (wA (.type T) args) Q E s:=by
 refine iX a.mro λc R S=>call<|ll rfl ?_;refine(?_:aD _ _ (callAny (.type T) _) _ _ _);refine pure ⟨Xe _ (by decide+kernel),Ht rfl F.entry_type_call ?_⟩;rw[Around.under_plain (weight_type_call_type T args []) rfl];unfold Builtin.«type.__call__»;refine(?_:aD _ _ (if (y7 T==y7 "type")=ae then _ else _) _ _ _);rw[aB (by rw[a.notType];exact dq)];show aD _ _ (if ((Manifest.find? T).bind (·.mro.findSome? λt=>(Manifest.find? t).bind λb=>if b.noNew then aa ae else if b.attrs.any (·.1=="__new__") then aa aq else ag)).getD aq=ae then _ else _) _ _ _;rw[aB (by rw[a.canCreate];exact dq)];refine bz<|cV i<|bz<|cV S ?_;refine(?_:aD _ _ (if (List.isEmpty (c::R))=ae then _ else _) _ _ _);rw[aB (by exact dq)];refine bz (cV a.made (bind (pure (bind (holding (call (qa Kw λr d B=>?_)))))));induction r using y8 with
 |error e=>exact B
 |ok V=>
  induction V using GY with
  |ret obj=>
   refine aW (f _ _ B) λP Y=>bz<|Cy P a.sub ?_;rw[aB<|dc rfl];refine bind<|holding ?_;unfold callSpecial?;refine bz (jt P a.init.lookup (holding (bz (cV (a.init.bind obj) (bind (call (qa Y λJ h M=>?_)))))));induction J using y8 with
   |error e=>exact M
   |ok O=>
    induction O using GY with
    |ret r=>
     exact aW M λj k=>rwl j<|pure<|pure k
    |_=>exact M.elim
  |_=>exact B.elim
end
end P
section
namespace BF
theorem S5:mroOf (.type "bytearray")=pure [.type "bytearray",.type "object"]:=by rw[mroOf_type ..];kernel_rfl
theorem aaF:typeLookup (.type "bytearray") "__new__"=pure (aa<|.builtin "bytearray.__new__"):=by rw[jq ..,jr];kernel_rfl
theorem HQ:uB "bytearray" "__init__" "bytearray.__init__":=
 .of (owner:="bytearray") (n:="__init__") (by rw[jq ..,jr];kernel_rfl) (by decide+kernel) (by decide+kernel) (by decide+kernel)
  (by first|exact .inl (by decide+kernel)|exact .inr (by decide+kernel)) (by rw[uC ..];kernel_rfl)
theorem sub_self:isSubtype (.type "bytearray") (.type "bytearray")=pure ae:=by rw[uC ..];kernel_rfl
theorem called:TypeCalled "bytearray" "bytearray.__new__" "bytearray.__init__":=
 ⟨by decide+kernel,by decide+kernel,gM _ _ S5,madeBy_type S5 aaF (by decide+kernel),by decide+kernel,sub_self,HQ⟩
theorem typeCall(a):checkTypeCall "bytearray" ⟨[a],[]⟩=pure ():=by kernel_rfl
theorem af9(a):checkBuiltinCall "bytearray.__new__" ⟨[.type "bytearray",a],[]⟩=pure ():=by kernel_rfl
theorem Py:plainId "bytearray.__new__"=ae:=by decide+kernel
theorem abI:entryFor table "bytearray.__new__"=aa Builtin.«list.__new__»:=entryFor_alias (id':="list.__new__") (by kernel_rfl) (by decide+kernel) (by decide+kernel) (by kernel_rfl)
theorem aaG:entryFor table "bytearray.__init__"=aa Builtin.«bytearray.__init__»:=by first|exact entryFor_of_fast (by kernel_rfl)|exact Cq (by kernel_rfl)
theorem abJ(a b):argsOk "bytearray.__init__" ⟨[a,b],[]⟩:=by unfold argsOk;rw[GV (id:="bytearray.__init__") (n:=['_','_','t','i','n','i','_','_']) (o:=['y','a','r','r','a','e','t','y','b']) (by kernel_rfl) zZ];kernel_rfl
theorem Pz:("bytearray.__new__".splitOn ".__new__").headD ""="bytearray":=by simp+decide [String.splitOn,String.splitOnAux]
theorem release:typeLookup (.type "bytearray") "__release_buffer__"=pure (aa<|.builtin "bytearray.__release_buffer__"):=by rw[jq ..,jr];kernel_rfl
theorem abK:typeLookup (.type "bytes") "__release_buffer__"=pure ag:=by rw[jq ..,jr];kernel_rfl
theorem Iq:typeLookup (.type "bytes") "__buffer__"=pure (aa<|.builtin "bytes.__buffer__"):=by rw[jq ..,jr];kernel_rfl
theorem aga:typeLookup (.type "bytes") "__index__"=pure ag:=by rw[jq ..,jr];kernel_rfl
theorem adm(v):Builtin.Bytes.bindOptional "bytearray.__init__" "bytearray" ["source","encoding","errors"] [v] []=pure [aa v,ag,ag]:=by kernel_rfl
theorem alf:("bytearray.__release_buffer__".endsWith<|"."++"__release_buffer__")=ae:=by decide+kernel
theorem alg:("bytearray.__release_buffer__".dropRight<|"__release_buffer__".length+1)="bytearray":=by decide+kernel
theorem alh:("bytes.__buffer__".endsWith<|"."++"__buffer__")=ae:=by decide+kernel
theorem ali:("bytes.__buffer__".dropRight<|"__buffer__".length+1)="bytes":=by decide+kernel
theorem alj:isSubtype (.type "bytes") (.type "bytes")=pure ae:=by rw[uC ..];kernel_rfl
end BF
section
variable{prog:fO}{w:eh}{A:bL}{E:Ar}{s:az}
theorem Zs(a)
  (h:Q₁ (.ref s.heap.objs.size) {s with heap:=s.heap.push {cls:=.type "bytearray",data:=.bytearray #[]}}):
  codeAny (model prog w) A (.call (.builtin "bytearray.__new__") ⟨[.type "bytearray",a],[]⟩) (wants Q₁ E) s:=by
 refine codeAny_of_tree ?_;refine(?_:wpAny _ A.in1 (do checkBuiltinCall "bytearray.__new__" ⟨[.type "bytearray",a],[]⟩;again (.builtin "bytearray.__new__" ⟨[.type "bytearray",a],[]⟩)) _ _ s);refine aI (cV (BF.af9 a) (bE ⟨Xf BF.Py _,codeAny_builtin_stack BF.abI rfl λp st=>?_⟩));rw[Xg BF.Py _];refine aI<|cV (rfl:isType (.type "bytearray")=pure ae) ?_;refine aI (cV (show isSubtype (.type "bytearray") (.type<|("bytearray.__new__".splitOn ".__new__").headD "")=pure ae by rw[BF.Pz];exact BF.sub_self) ?_);rw[aB (by decide)];dsimp only;rw[BF.Pz];refine aI (bE (aI (sH ?_ (by size_fits))));exact bE h
theorem own_release{T:String}{b:Bool}(a:s.TypeIs v T)(hr:(T="bytearray")\/T="bytes")(h:Q aq s):wpAny (model prog w) A (aoD v) Q E s:=by
 unfold aoD aoE;rcases hr with rfl|rfl
 ·refine aI<|aI<|jt a BF.release ?_;dsimp only;rw[BF.alf,aB<|dc rfl,BF.alg];exact Cy a BF.sub_self<|bE h
 ·exact aI<|aI<|jt a BF.abK<|bE<|bE h
theorem agb{id:String}(h:qE (.builtin id args)=ae):id∈["type.__call__","bytearray.__init__","bytearray.__setitem__","claim.caller"]:=List.contains_iff_mem.mp h
theorem Z4(h:Q aq s):aD (model prog w) A (Builtin.Bytes.exported a) Q E s:=by
 intro Γ p M g;refine(?_:Q _ s);refine(aw (λb=>Q b s) (List.any_eq_false.mpr λx hx=>(Cz _).mpr ?_)).mpr h;have hx:qE x.1=ae:=by
  rcases sS.mp hx with rfl|hx
  ·exact g.1
  ·exact g.2 x hx
 clear h g;obtain⟨c,q⟩:=x;induction c using PySem.Code.casesOn with
 |builtin id args=>
  have B:=agb hx;clear hx;obtain⟨J,O⟩:=args;simp only[sS,CA,or_false] at B;induction J using dz with
  |nil=>rcases B with rfl|rfl|rfl|rfl<;>kernel_rfl
  |cons v r=>rcases B with rfl|rfl|rfl|rfl<;>induction r using dz<;>exact(by kernel_rfl:_=(Builtin.Bytes.sameRef v a&&aq)).trans (y6 _)
 |_=>rfl
theorem NZ{id:String}{b:Builtin}{R:gP->az->Prop}(hk:qE (.builtin id args)=ae)(c:plainId id=ae)(hb:entryFor table id=aa b)
  (h:wpAny (model prog w) A.in1 (checkBuiltinCall id args) (λZ d=>aD (model prog w) A.in1 (b args)
   (λfin a=>match fin with|.done f=>R (.ok f) a|.again c'=>c'.quiet=ae/\cM (model prog w) A c' R a) (λe a=>R (.error e) a) d)
   (λe a=>R (.error e) a) s):cM (model prog w) A (.call (.builtin id) args) R s:=by
 refine P.ll rfl ?_;refine(?_:aD _ A.in1 (do checkBuiltinCall id args;again (.builtin id args)) _ _ s);refine P.bz (fh h (λZ d B=>P.pure ⟨Xf c _,P.Ht hk hb ?_⟩) λZ Z x=>x);rw[Xg c args];exact B
theorem HR{d:Option aH}{Q:Unit->az->Prop}{f:Array UInt8->Array UInt8}(ho:s.heap.get? a=aa ⟨.type "bytearray",d,.bytearray b n,sl⟩)(hf:f b=c)(hz:c.size<=sizeLine)
  (h:∀h',dp a s.heap h'->h'.get? a=aa ⟨.type "bytearray",d,.bytearray c n,sl⟩->Q () {s with heap:=h'}):wpAny (model prog w) A (Builtin.Bytes.write (.ref a) f) Q E s:=by
 subst hf;refine(?_:wpAny _ _ (updateBytearray a f) _ _ _);unfold updateBytearray;refine aI<|sM ho ?_;refine(?_:wpAny _ _ (update a (aoF f)>>=λZ=>lookBehind a) _ _ _);refine aI<|wpAny_update ho ?_;have B:=pK (aoF f) ho rfl;refine Xh B ?_<|h _ (pM ..).extBut B;refine(?_:(if (f b).size>sizeLine then aa "bytearray:memory" else ag)=ag);rw[aB<|Nat.not_lt.mpr hz]
theorem adn{S:aH}{t:Tok}{Q:az->Prop}(ho:s.heap.get? S=aa {cls:=.type "bytearray",data:=.bytearray #[]})(hz:b.size<=sizeLine)
  (h:∀h',dp S s.heap h'->h'.get? S=aa {cls:=.type "bytearray",data:=.bytearray b}->Q {s with heap:=h'}):
  aD (model prog w) A (Builtin.«bytearray.__init__» ⟨[.ref S,.bytes b t],[]⟩) (λfin d=>fin=.done (.ret .none)/\Q d) E s:=by
 have M:s.TypeIs (.ref S) "bytearray":=i12 _ ho rfl;have B:∀s:az,s.TypeIs (.bytes b t) "bytes":=λs=>MY _ _ _;unfold Builtin.«bytearray.__init__»;refine P.bz<|own_release (b:=ae) M (.inl rfl) ?_;rw[aB dq];refine P.bz<|cV (BF.adm _)<|P.bz<|cV (a:=()) rfl<|P.bz<|cV (a:=()) rfl ?_;refine P.bind<|P.bind<|Z4 ?_;refine P.bz<|aI<|aI<|sM ho<|bE<|bE ?_;refine P.pure ?_;refine(?_:aD _ _ (if aq=ae then _ else _) _ _ _);rw[aB dq];refine P.bz (HR ho rfl (nP _) λY A7 O=>P.bz<|cV (a:=ag) rfl ?_);refine(?_:aD _ _ (if aq=ae then _ else _) _ _ _);rw[aB dq];refine P.bz<|bE (a:=())<|P.bz<|jt (B _) BF.aga ?_;refine(?_:aD _ _ (if aq=ae then _ else _) _ _ _);rw[aB dq];unfold aoG;refine P.bz<|aI<|jt (B _) BF.Iq ?_;dsimp only;unfold aoE;refine aI<|aI<|jt (B _) BF.Iq ?_;dsimp only;rw[BF.alh,aB<|dc rfl,BF.ali];refine Cy (B _) BF.alj ?_;rw[aB<|dc rfl];refine aI<|jt (B _) BF.Iq<|aI<|own_release (b:=ae) (B _) (.inr rfl) ?_;rw[aB dq];exact aI (aI (cV (a:=aa b) rfl (bE (bE (P.bz (pN (P.bz (HR O rfl hz λR T V=>P.pure ⟨rfl,h R (λc o J e=>T c o J<|A7 c o J e) V⟩))))))))
theorem N4(hz:b.size<=sizeLine)
  (h:∀h',(∀c o,s.heap.get? c=aa o->h'.get? c=aa o)->h'.get? s.heap.objs.size=aa {cls:=.type "bytearray",data:=.bytearray b}->Q (.ref s.heap.objs.size) {s with heap:=h'}):
  aD (model prog w) A (call (.type "bytearray") [.bytes b t]) Q E s:=by
 refine P.abH (Q₁:=λobj M=>obj=.ref s.heap.objs.size/\M={s with heap:=s.heap.push {cls:=.type "bytearray",data:=.bytearray #[]}}) BF.called (BF.typeCall _) (P.code<|Zs _ ⟨rfl,rfl⟩) λobj M R=>aW R λB S=>rwl B<|rwl S ?_;have J:(s.heap.push {cls:=.type "bytearray",data:=.bytearray #[]}).get? s.heap.objs.size=aa {cls:=.type "bytearray",data:=.bytearray #[]}:=mT _ rfl;refine⟨i12 _ J rfl,NZ (by kernel_rfl) BF.HQ.plain BF.aaG (BF.HQ.check _ _ _ _ _ _ _ _ (i12 _ J rfl) (BF.abJ _ _) (P.mono (adn (Q:=λO=>Q (.ref s.heap.objs.size) O) J hz λh' T V=>h h' (λc o e=>T c o (ju<|i7 e)<|eT _ e) V) (λfin O Y=>?_) λZ Z y=>y))⟩;exact aW Y λB a=>rwl B ⟨rfl,a⟩
end
section
variable{C:Cx}{K:FC}{F F':Fz}{ι av:lk}{m m':J}{env:Env}{s s':az}{A:bL}{E:Ar}
theorem FS.alk(x:FS C K F ι m env s)(hk:∀c o,s.heap.get? c=aa o->h'.get? c=aa o)(ho:h'.get? s.heap.objs.size=aa ob)(hr:di C F ι ob o):
  FS C K F (ι++[s.heap.objs.size]) (m++[o]) env {s with heap:=h',toks:=t}/\Pre ι (ι++[s.heap.objs.size]):=by
 have A:=rn s.heap;have P:=x.st.jz A;have B:=Pre.append ι [s.heap.objs.size];have g:FS C K F ι m env {s with heap:=h',toks:=t}:=x.grow hk;refine bu x.fm λE J=>⟨⟨g.st.Eh P ho hr x.xX,⟨E,J.move (.refl F) B λa O Q e=>⟨hk _ _ e,Q.new,Q.fr,λM=>?_⟩⟩,x.wd⟩,B⟩;rcases List.mem_append.mp M with q|q
 ·exact Q.ni q
 ·rw[GL] at q;rw[q,A] at e;exact bk e
theorem Zt(x:FS C K F ι m env s)(r:Rl C F ι v (.bb l))(hl:l.length<=1000000):
  aD C.md A (call (.type "bytearray") [v]) (cg C K F ι env (.ok (.ref m.length)<|m++[.bar l])<|Rl C) E s:=by
 refine rE r λy t B J=>rwl B ?_;subst J;have:(cq y).length=y.size:=by simp[cq]
 refine N4 (iR (by lia)) λP M O=>aW (x.alk (t:=s.toks) M O<|.bar rfl rfl) λa b=>⟨.ref m.length,_,F,_,rfl,.refl F,b,a,.ref ?_⟩;rw[<-x.st.len];simp
end
end
section
namespace BF
end BF
section
variable{prog:fO}{w:eh}{A:bL}{E:Ar}{s:az}
open Builtin in
theorem Oz(h:s.heap.IsSliceOf sl (.int a t) (.int b u) .none)(q:Q (rawPart<|aa a,rawPart<|aa b,rawPart ag) s):
  wpAny (model prog w) A (Bytes.sliceParts<|.ref sl) Q E s:=
 cA h λo J O M=>fh (Qm (E:=E) (.int a t) (.int b u) J M) (λr P B=>B.1▸rwl B.2 q) λZ Z e=>e
theorem Rz(h:k<=n):clipAt n (k:Int)=k:=(MK n k).trans<|mR h
theorem ado{ob y:Array UInt8}{lo hi n:Nat}(h1:lo<=hi)(h2:hi<=ob.size)(a:y.size=hi-lo)(hz:ob.size<=n):(ob.extract 0 lo++y++ob.extract hi ob.size).size<=n:=by simp only[aoH,Array.size_extract];lia
open Builtin in
theorem agc{lo hi:Nat}{ob:Array UInt8}{y:Array UInt8}{Q:az->Prop}(ho:s.heap.get? a=aa ⟨.type "bytearray",d,.bytearray ob 0,f⟩)
  (hs:s.heap.IsSliceOf sl (.int lo t) (.int hi u) .none)(h1:lo<=hi)(h2:hi<=ob.size)(b:y.size=hi-lo)(hz:ob.size<=sizeLine)
  (h:∀h',dp a s.heap h'->h'.get? a=aa ⟨.type "bytearray",d,.bytearray (ob.extract 0 lo++y++ob.extract hi ob.size) 0,f⟩->Q {s with heap:=h'}):
  aD (model prog w) A («bytearray.__setitem__» ⟨[.ref a,.ref sl,.bytes y k],[]⟩) (λfin g=>fin=.done (.ret .none)/\Q g) E s:=by
 refine cA hs λo B J R=>?_;have S:s.TypeIs (.ref sl) "slice":=i12 o B J;have m:∀s:az,s.TypeIs (.bytes y k) "bytes":=λs=>MY _ _ _;unfold «bytearray.__setitem__»;rw[aB (show¬((![].isEmpty)=ae) from by decide)];unfold Bytes.subscript?;refine P.bz<|aI<|jt S slice_no_index<|bE<|P.bz<|Xa S ?_;rw[aB (by decide)];refine P.bz<|Oz (cu o B J R)<|P.bz<|cV (a:=aq) rfl<|P.bz<|cV (a:=aq) rfl<|P.bz<|cV (a:=ag) rfl ?_;rw[aB (by decide)];refine P.bz<|pN ?_;have M:=b▸au (gR _ _) (au h2 hz);refine P.bind (N4 M λn JV O=>?_);have T:=JV _ _ ho;refine P.bind (P.holding (P.of (Oz (cu o (JV _ _ B) J R) (P.bz (xb (cu _ O rfl rfl) (P.bz (xb (cu _ T rfl rfl) (P.bz (cV (sliceIndices_raw (aa (lo:Int)) (aa (hi:Int)) ag ob.size λe=>bk e) ?_)))))))));rw[MN ..,show((aa (lo:Int)).elim 0<|clipAt ob.size)=lo from Rz (au h1 h2),show((aa (hi:Int)).elim ob.size<|clipAt ob.size)=hi from Rz h2];refine(?_:aD _ _ (if ((1:Int)==1)=ae then _ else _) _ _ _);rw[aC<|dc rfl];refine P.bz<|pN ?_;rw[show max (lo:Int) (hi:Int)=(hi:Int) from Int.max_eq_right (Int.ofNat_le.mpr h1),aB (by rw[bne_iff_ne,b,Int.natCast_sub h1];exact λh=>h rfl)];exact P.bz (HR T rfl (ado h1 h2 b hz) λV Y i=>P.pure ⟨rfl,h V (λc j l e=>Y c j l<|JV _ _ e) i⟩)
theorem Zu{T:String}{id:String}(a:s.TypeIs o T)(hn:seqItemTypes.contains T=aq)(hl:uB T "__setitem__" id)(he:entryFor table id=aa b)(hk:qE (.builtin id ⟨[o,i,v],[]⟩)=ae)(ha:argsOk id ⟨[o,i,v],[]⟩)
  (h:aD (model prog w) A.in1 (b ⟨[o,i,v],[]⟩) (λfin c=>fin=.done (.ret .none)/\Q () c) E s):aD (model prog w) A (setItem o i v) Q E s:=by
 refine P.holding<|P.bz<|Xi a hn<|P.bind ?_;unfold callSpecial?;refine P.bz<|jt a hl.lookup ?_;dsimp only;rw[hl.bind ..];refine P.holding (P.bz (bE (P.bind (P.call (NZ hk hl.plain he (hl.check _ _ _ _ _ _ _ _ a ha (P.mono h (λfin c B=>?_) λZ Z y=>y)))))));have J:=B;clear B;refine aW J λM B=>?_;exact rwl M<|P.pure<|P.pure B
end
section
variable{C:Cx}{K:FC}{F F':Fz}{ι av:lk}{m m':J}{env:Env}{s s':az}{A:bL}{E:Ar}
theorem adp(ob y)(lo hi):cq (ob.extract 0 lo++y++ob.extract hi ob.size)=(cq ob).take lo++cq y++(cq ob).drop hi:=by unfold cq;simp only[aor,Array.toList_extract,jo,List.extract_eq_take_drop,MQ,Nat.sub_zero,MM,W7];congr 1;rw[sQ (by simp)]
theorem abL(x:FS C K F ι m env s){lo hi:Nat}(hm:m[i]?=aa (.bar l))(rv:Rl C F ι v (.ref i))(e:Rl C F ι u (.bb b))
  (hs:s.heap.IsSliceOf sl (.int lo t) (.int hi k) .none)(h1:lo<=hi)(h2:hi<=l.length)(a:b.length=hi-lo)(hz:l.length<100000):
  aD C.md A (setItem v (.ref sl) u) (λZ s'=>∃F',Le F F'/\FS C K F' ι (m.set i<|.bar<|l.take lo++b++l.drop hi) env s') E s:=by
 refine rE e λy h B P=>rwl B ?_;subst P;refine bo rv.inv λZ B J=>?_;subst B;refine bo (x.dat J hm) λR O S=>?_;obtain⟨c,d,dt,j⟩:=R;refine cA S.inv λM T V B=>?_;subst B;subst T V;have Y:∀z:Array UInt8,(cq z).length=z.size:=λz=>by simp[cq]
 rw[Y] at h2 a hz;exact Zu (i12 _ O rfl) (dc rfl) BF.YF BF.YA (by kernel_rfl) (BF.YG _ _ _)
  (agc (Q:=λs'=>∃F',Le F F'/\FS C K F' ι (m.set i<|.bar<|(cq M).take lo++cq y++(cq M).drop hi) env s') O hs h1 h2 a (iR<|au (eg hz)<|dl rfl) λn f g=>(i12 F (.refl F)<|rws (adp M y lo hi)<|x.upd (t:=s.toks) J f g<|.bar rfl rfl))
end
end
section
namespace BF
theorem agd:typeLookup (.type "bytes") "__bytes__"=pure (aa<|.builtin "bytes.__bytes__"):=by rw[jq ..,jr];kernel_rfl
theorem adq:typeLookup (.type "bytearray") "__bytes__"=pure ag:=by rw[jq ..,jr];kernel_rfl
theorem ads:typeLookup (.type "bytearray") "__index__"=pure ag:=by rw[jq ..,jr];kernel_rfl
theorem HS:typeLookup (.type "bytearray") "__buffer__"=pure (aa<|.builtin "bytearray.__buffer__"):=by rw[jq ..,jr];kernel_rfl
theorem ai6:("bytearray.__buffer__".endsWith<|"."++"__buffer__")=ae:=by decide+kernel
theorem ai7:("bytearray.__buffer__".dropRight<|"__buffer__".length+1)="bytearray":=by decide+kernel
end BF
section
variable{prog:fO}{w:eh}{A:bL}{E:Ar}{s:az}
theorem PA(h:wpAny (model prog w) A.in1.in1 (Builtin.«bytes.__new__» ⟨[.type "bytes",v],[]⟩) (λfin a=>∃r,fin=.done (.ret r)/\a.TypeIs r "bytes"/\Q r a) E s):
  wpAny (model prog w) A (call (.type "bytes") [v]) Q E s:=by
 refine callType_codes (Q₁:=λobj B=>B.TypeIs obj "bytes"/\Q obj B) F.bm_called (F.bm_typeCall _) F.entry_object_init ?_ λobj B J=>?_
 ·refine codeAny_of_tree ?_;refine(?_:wpAny _ A.in1.in1 (do checkBuiltinCall "bytes.__new__" ⟨[.type "bytes",v],[]⟩;again (.builtin "bytes.__new__" ⟨[.type "bytes",v],[]⟩)) _ _ s);refine aI<|cV (F.bm_newCall _)<|bE ⟨Xf F.bm_plain _,codeAny_builtin F.bm_entry ?_⟩;rw[Xg F.bm_plain _];exact fh h (λfin a M=>cA M λr O P R=>rwl O ⟨P,R⟩) λZ Z e=>e
 exact cv J.1 (F.args_object_init_2 obj _)<|object_init_meets F.bm_called.init.lookup F.bm_called.made (dc rfl) prog w A.in1 _ B<|cv J.1 rfl J.2
theorem Z5(h:Q (.bytes y k) s):wpAny (model prog w) A (call (.type "bytes") [.bytes y k]) Q E s:=by have B:∀s:az,s.TypeIs (.bytes y k) "bytes":=λs=>MY _ _ _;refine PA ?_;unfold Builtin.«bytes.__new__»;exact aI<|cV (a:=ae) rfl<|y9 rfl<|aI<|cV F.bm_sub<|y9 rfl<|aI<|cV (F.bm_bind _)<|aI<|cV (a:=()) rfl<|aI<|cV (a:=()) rfl<|y9 rfl<|aI<|jt (B _) BF.agd<|aI<|pN<|aI<|Xa (B _)<|bm_if_true (dc rfl)<|bE<|cu _ rfl (B _) h
theorem abM(hb:lz s.heap a b)(hz:b.size<=sizeLine)(h:Q (.bytes b s.toks) {s with toks:=s.toks+1}):wpAny (model prog w) A (call (.type "bytes") [.ref a]) Q E s:=by have B:=hb.typeIs;refine cA (id hb) λo J O M=>PA ?_;unfold Builtin.«bytes.__new__»;refine aI<|cV (a:=ae) rfl<|y9 rfl<|aI<|cV F.bm_sub<|y9 rfl<|aI<|cV (F.bm_bind _)<|aI<|cV (a:=()) rfl<|aI<|cV (a:=()) rfl<|y9 rfl<|aI<|jt B BF.adq<|aI<|aI<|aI<|sM J ?_;rw[M];refine bE<|bE<|y9 rfl<|aI<|jt B BF.ads<|bm_if_true rfl<|aI ?_;unfold aoG;refine aI<|jt B BF.HS<|aI<|aI<|jt B BF.HS ?_;dsimp only;rw[BF.ai6,aB<|dc rfl,BF.ai7];refine Cy B BF.sub_self ?_;rw[aB<|dc rfl];refine aI<|jt B BF.HS<|aI<|own_release (b:=ae) B (.inl rfl) ?_;rw[aB dq];exact aI<|xb hb<|bE<|aI<|pN<|aI<|wpAny_mkBytes (bE<|cu _ rfl (MY _ _ _) h) hz
end
section
variable{C:Cx}{K:FC}{F F':Fz}{ι av:lk}{m m':J}{env:Env}{s s':az}{A:bL}{E:Ar}
theorem FS.newX(x:FS C K F ι m env s)(hn:s.heap.get? a=ag)(hk:∀c o,s.heap.get? c=aa o->h'.get? c=aa o)(ho:h'.get? a=aa o):
  FS C K (F.put a o) ι m env {s with heap:=h',toks:=t}/\Le F (F.put a o):=by
 have P:=x.st.jz hn;have g:FS C K F ι m env {s with heap:=h',toks:=t}:=x.grow hk;have A:Le F (F.put a o):=.put P.fr;refine bu x.fm λB E=>⟨⟨g.st.freeze P ho,⟨B,?_⟩,x.wd.mono A⟩,A⟩;exact E.move A (.refl ι) λb J Q e=>⟨hk _ _ e,Q.new,by unfold Fz.put;rw[aB (λ(q:b=a)=>by rw[q,hn] at e;exact bk e)];exact Q.fr,Q.ni⟩
theorem Zv(x:FS C K F ι m env s)(r:Rl C F ι v (.bb l)):wpAny C.md A (call (.type "bytes") [v]) (cg C K F ι env (.ok (.bb l) m)<|Rl C) E s:=by refine rE r λy t B J=>?_;subst B;exact Z5<|.mk rfl x r
theorem Zw(x:FS C K F ι m env s)(r:Rl C F ι v d)(hd:rv m d=.bar l)(hl:l.length<=1000000):wpAny C.md A (call (.type "bytes") [v]) (cg C K F ι env (.ok (.bb l) m)<|Rl C) E s:=by
 refine DC x r hd λa o b B J M O P=>rwl B<|rwl P ?_;have:(cq b).length=b.size:=by simp[cq]
 exact abM (cu o J M O) (iR (by lia))<|.mk rfl (x.tok _)<|.bb b _
theorem eB.pairs(r:eB C F ι es ds):∃kvs:List (Int×ar),Pairs (intKind C.prog C.w) es kvs/\kvs.map (·.1)=ds.map (·.1)/\aU C F ι (kvs.map (·.2)) (ds.map (·.2)):=by induction r with|nil=>exact cu ([]) (.nil) rfl (.nil)|@cons e i t d es ds m J h r s=>refine cA s λkvs A B E=>?_;exact cu ((i,e.val)::kvs) (.cons (by rw[m];exact wB _ _ i t) rfl A) (by simp[B])<|.cons h E
theorem aaH(x:FS C K F ι m env s)(r:Rl C F ι v (.ref i))(e:m[i]?=aa (.bW l))(hn:(l.map (·.1)).Nodup):
  ∃a kvs ep,v=.ref a/\(a==sysModules)=aq/\s.heap.DictAt (intKind C.prog C.w) a kvs ep/\kvs.map (·.1)=l.map (·.1)/\aU C F ι (kvs.map (·.2)) (l.map (·.2))/\ι[i]?=aa a:=by
 refine gl λf E=>?_;obtain⟨a,o,J,n,rfl,M,O,⟨P,R⟩,A,S,T⟩:=Il x r e;refine cA A.pairs λkvs V B Y=>?_;refine E ?_;refine Lv a kvs n rfl S (yD o J M O P (λe b=>fw (A.isInt e<|Array.mem_toList_iff.mpr b) λx t c d=>?_) V<|rwl B hn) B Y T;exact i12 x (by rw[c];exact wB _ _ x t) d
theorem Qt:∀{l},rQ l=ae->l.Pairwise (·<·)
 |[],_=>.nil
 |[_],_=>.cons (λZ h=>nomatch h) .nil
 |a::b::r,h=>by
  refine mh h λm A=>?_;have m:=of_decide_eq_true m;have s:=Qt A;refine .cons (λc hc=>?_) s;rcases sS.mp hc with rfl|hc
  ·exact m
  ·exact MH m<|(List.pairwise_cons.mp s).1 c hc
theorem adt(h:wD vs ns):aU C F ι vs (ns.map V.int):=by induction h with|nil=>exact .nil|cons n t r m=>exact .cons (.int n t) m
theorem ints_get:∀{ns:List Int},vs.length=ns.length->(∀(j:Nat)(v:ar),vs[j]?=aa v->∃k t,ns[j]?=aa k/\v=.int k t)->wD vs ns:=by induction vs with|nil=>exact λh Z=>rwl (sR h.symm) .nil|cons v vs m=>intro ns h g;induction ns using dz with|nil=>exact aT h (Nat.succ_ne_zero _)|cons n ns=>exact fw (g 0 v rfl) λk t s A=>A▸rws (bf s) (.cons _ t (m (uE h) λj u B=>g (j+1) u B))
theorem abN(x:FS C K F ι m env s)(hh:A.handled=ag)(r:Rl C F ι v (.ref i))(e:m[i]?=aa (.bW l))(hr:rQ (l.map (·.1))=ae)(hl:l.length<=8):
  wpAny C.md A (call (.builtin "sorted") [v]) (cg C K F ι env (.ok (.lst (l.map λp=>.int p.1)) m)<|Rl C) E s:=by
 have T:=Qt hr;refine e36 (aaH x r e (T.imp λh=>Int.ne_of_lt h)) λa kvs ep O P R V h4 Z=>rwl O ?_;have d:kvs.length=l.length:=by rw[<-bJ (f:=(·.1)),V,bJ ..]
 refine Calls.call_function_entry kind_sorted plain_sorted entry_sorted (args_sorted1 _) ?_;unfold Builtin.«sorted»;refine aI (m:=checkCount "sorted" 1 1 _) (bE (aI (kdu_collect (kdl_dict (knd:=intKind C.prog C.w) (kvs:=kvs) (ep:=ep) P) hh R (iR (by lia)) λJ g B hk M=>?_)));have n:wD B.toList (l.map (·.1)):=by
  refine ints_get (by rw[kX,M.1,d,bJ ..]) λj u z=>?_;refine fw (M.2 j u (by rw[<-yX];exact z)) λk y D G=>?_;have H:(l.map (·.1))[j]?=aa k:=by rw[<-V,gB,D];rfl
  exact bu (aoI G) λt O=>rwl O<|iY k t H rfl
 refine aI (MF ?_ (by rw[kX,M.1];exact iR (by lia)));have S:(J.push<|seqObj "list" B.toList.toArray 0).get? J.objs.size=aa (seqObj "list" B.toList.toArray 0):=mT _ rfl;refine aI (jn (wG slot_list_sort (i12 _ S rfl) entry_list_sort (list_sort_tree S n (by rw[kX,M.1];lia) λout I L N Q=>i12 _ rfl ?_)<|args_list_sort _));refine bE<|i12 _ rfl ?_;have U:=List.Perm.eq_of_pairwise (λa b Z Z P R=>Int.le_antisymm P R) Q (T.imp Xj) N;subst U;refine bu (sortedHeap_at (out:=out) S) λc W=>?_;have X:s.heap.get? J.objs.size=ag:=by induction q:s.heap.get? J.objs.size using aO with|none=>rfl|some o=>exact aT (i7<|hk _ _ q) (sL _)
 have Y:∀b o,s.heap.get? b=aa o->b≠J.objs.size/\b<(J.push<|seqObj "list" B.toList.toArray 0).objs.size:=λb o q=>by have:=i7<|hk _ _ q;rw[za ..];exact⟨ju this,MZ this⟩
 refine aW (x.newX (t:=g) X (λb o q=>by rw[sortedHeap_old (Y b o q).1 (Y b o q).2];exact eT _ (hk _ _ q)) W) λy1 y2=>?_;refine .mk' rfl y2 (.refl ι) y1<|.lst (Fz.m6 ..) rfl rfl ⟨rfl,rfl⟩ ?_;have:=adt (C:=C) (F:=F.put J.objs.size<|seqObj "list" out c) (ι:=ι) L;rw[iM] at this;exact this
end
end
structure Fx.nH(X:Fx):Prop where
 yes:∀c,nt.contains (aF c)=ae->∃a,X.C.mg c=aa (.ref a)/\isIn X.C.K (.ref a) a=ae
 no:∀c x,nt.contains (aF c)=ae->nt.contains (aF x)=ae->c≠x->∃a b,X.C.mg c=aa (.ref a)/\X.C.mg x=aa (.ref b)/\kin_not X.C.K a b=ae/\plainGet X.C.K a "__class__"=ae/\hasDictIn X.C.K a=ae/\
  findIn X.C.K (.ref a) "__class__"=aa (aa<|.builtin "object.__class__")/\mroIn X.C.K a (.type "object")=aa ae
 slot:specialIn X.C.K (.builtin "object.__class__") "__get__"=aa (aa<|.builtin "getset_descriptor.__get__")
 takes:takesIn X.C.K (.builtin "object.__class__")=aa ae
section
variable{C:Cx}{K:FC}{F F':Fz}{ι av:lk}{m m':J}{env:Env}{s s':az}{A:bL}{E:Ar}
theorem aU.one(h:aU C F ι vs [d]):∃v,vs=[v]/\Rl C F ι v d:=by cases h with|cons h r=>cases r;exact i12 _ rfl h
theorem aU.two(h:aU C F ι vs [d,j]):∃v u,vs=[v,u]/\Rl C F ι v d/\Rl C F ι u j:=by cases h with|cons h r=>exact bo r.one λu q m=>fX _ u (aw (_::·) q) h m
theorem aU.three(h:aU C F ι vs [d,j,k]):∃v u w,vs=[v,u,w]/\Rl C F ι v d/\Rl C F ι u j/\Rl C F ι w k:=by cases h with|cons h r=>exact cP r.two λu w q m s=>ee _ u w (aw (_::·) q) h m s
theorem adu(x:FS C K F ι m env s)(h:aU C F ι vs l)(e:D3 l=aa r):
  wpAny C.md A (call (.type "range") vs) (cg C K F ι env (.ok r m)<|Rl C) E s:=by
 induction l using dz with
 |nil=>exact bk e
 |cons a l=>induction l using dz with
  |nil=>
   exact vm (show(a.dw.map λb=>V.dW 0 b.1 1)=aa r from e) λi J M=>bo h.one λv B O=>rwl B (fB (cF J O) λt B=>rwl B ((show V.dW 0 i 1=r from M)▸call_range_1 (IZ x)))
  |cons b l=>induction l using dz with
   |nil=>
    exact cO (show(a.dw.bind λa=>b.dw.map λb=>V.dW a.1 b.1 1)=aa r from e) λi J e=>vm (show(b.dw.map λb=>V.dW i b.1 1)=aa r from e) λj P M=>cP h.two λv u B O R=>rwl B (fB (cF J O) λt B=>rwl B (fB (cF P R) λS B=>rwl B ((show V.dW i j 1=r from M)▸call_range_2 (IZ x))))
   |cons c l=>induction l using dz with
    |nil=>
     exact cO (show(a.dw.bind λa=>b.dw.bind λb=>c.dw.bind λc=>if c.1>0/\c.1<1000 then aa (V.dW a.1 b.1 c.1) else ag)=aa r from e) λi J e=>cO e λj P e=>cO e λk T e=>dA e λg M=>jQ h.three λv u w B O R Y=>rwl B (fB (cF J O) λt B=>rwl B (fB (cF P R) λS B=>rwl B (fB (cF T Y) λd B=>rwl B ((show V.dW i j k=r from M)▸call_range_3 (Int.ne_of_gt g.1) (IZ x) (.inl (PyProof.noPylong_small (by lia)))))))
    |cons _ _=>exact bk e
theorem RA{a b:V}{f:Int->Int->Int}(e:(a.dw.bind λa=>b.dw.map λb=>V.int<|f a.1 b.1)=aa r):∃i j,a=.int i/\b=.int j/\V.int (f i j)=r:=by refine gl λB m=>?_;refine cO e λi s e=>?_;refine vm e λj A e=>?_;refine m ?_;exact fX i j s A e
theorem ai8(x:FS C K F ι m env s)(hh:A.handled=ag){v u:ar}{d j r:V}(h:Rl C F ι v d)(h':Rl C F ι u j)(e:EP d j=aa r):
  wpAny C.md A (call (.builtin "min") [v,u]) (cg C K F ι env (.ok r m)<|Rl C) E s:=by
 refine cP (RA (f:=λa b=>if b<a then b else a) e) λa b J M q=>fB (cF J h) λt B=>rwl B (fB (cF M h') λP B=>rwl B ?_);exact min_two_ints hh λh' R O=>rws q (.mk rfl (x.grow O) (by split<;>exact .int _ _))
theorem ai9(x:FS C K F ι m env s)(hh:A.handled=ag){v u:ar}{d j r:V}(h:Rl C F ι v d)(h':Rl C F ι u j)(e:ER d j=aa r):
  wpAny C.md A (call (.builtin "max") [v,u]) (cg C K F ι env (.ok r m)<|Rl C) E s:=by
 refine cP (RA (f:=λa b=>if a<b then b else a) e) λa b J M q=>fB (cF J h) λt B=>rwl B (fB (cF M h') λP B=>rwl B ?_);exact max_two_ints hh λh' R O=>rws q (.mk rfl (x.grow O) (show Rl C F ι (if _<_ then _ else _) _ by split<;>exact .int _ _))
end
section
variable{X:Fx}
variable{K:FC}{F F':Fz}{ι av:lk}{m m':J}{env:Env}{s s':az}{A:bL}{E:Ar}{Q:Ar}{r:R V}
theorem aja(W:X.nH)(x:FS X.C K F ι m env s){d j r:V}(h:Rl X.C F ι v d)(h':Rl X.C F ι u j)(e:A3 m d j=aa r):
  wpAny X.C.md A (call (.builtin "isinstance") [v,u]) (cg X.C K F ι env (.ok r m)<|Rl X.C) E s:=by
 refine gl λL c=>?_;refine cO e λp f e=>?_;refine cO e λy g e=>lg e λi e=>mh i λB J=>vm e λl n o=>x.inst (cF f h) n λa N U Z k z t P Q h2 h3 h4 R=>?_;subst t;refine gx ((cF g h').inv) λS b w T Y hk=>?_;refine c ?_;refine rwl w ?_;rw[<-(show V.bool (decide<|p.1=y)=r from o),<-T,<-P];have B:=P.symm▸(show nt.contains p.1=ae from B);have J:=T.symm▸(show nt.contains y=ae from J);by_cases O:z=S
 ·subst O;refine bo (W.yes z B) λD g1 g2=>?_;cases pH (bf<|g1.symm.trans Q)
  cases pH (bf<|g1.symm.trans Y)
  exact isi_call x.i4 (λM=>(CB (part:=ag) R.1).andThen (by exact .now)) g2 (by intro q;cases q)<|.mk rfl x<|cF (aw V.bool (decide_eq_true rfl).symm)<|.bool ae
 ·refine e27 (W.no z S B J O) λD b' g1 g2 G g4 H g6 I=>?_;cases pH (bf<|g1.symm.trans Q)
  cases pH (bf<|g2.symm.trans Y)
  exact kin_callC x.i4 R G g4 H g6 W.slot W.takes I (.mk rfl (x.tok _) (cF (aw V.bool (decide_eq_false λq=>O<|j1 q).symm)<|.bool aq))
theorem RB{g:V->R V}(hr:(match l with|[d]=>g d|_=>.H)=r)(hb:r≠.H):∃d,l=[d]/\g d=r:=by induction l using dz with|nil=>exact aT hr.symm hb|cons d l=>induction l using dz with|nil=>exact i12 d rfl hr|cons _ _=>exact aT hr.symm hb
theorem age{g:V->V->R V}(hr:(match l with|[d,j]=>g d j|_=>.H)=r)(hb:r≠.H):∃d j,l=[d,j]/\g d j=r:=by induction l using dz with|nil=>exact aT hr.symm hb|cons d l=>induction l using dz with|nil=>exact aT hr.symm hb|cons j l=>induction l using dz with|nil=>exact iY d j rfl hr|cons _ _=>exact aT hr.symm hb
theorem AN{f:J->V->La}(hf:∀l m,qF b l m=match l with|[d]=>R.of m (f m d)|_=>.H)(h:aU X.C F ι vs l)(hr:qF b l m=r)(hb:r≠.H)(hQ:jg X.C K F ι env r (Rl X.C) Q)
  (go:∀v d r,Rl X.C F ι v d->f m d=aa r->wpAny X.C.md A (call (ym b) [v]) (cg X.C K F ι env (.ok r m)<|Rl X.C) E s):
  aD X.C.md A (call (ym b) vs) Q E s:=by
 refine bo (RB ((hf l m).symm.trans hr) hb) λd B M=>?_;subst B;exact bo h.one λv B O=>rwl B (sk M hb hQ λw q=>go v d w O q)
theorem I0{f:J->V->V->La}(hf:∀l m,qF b l m=match l with|[d,j]=>R.of m (f m d j)|_=>.H)(h:aU X.C F ι vs l)(hr:qF b l m=r)(hb:r≠.H)(hQ:jg X.C K F ι env r (Rl X.C) Q)
  (go:∀v u d j r,Rl X.C F ι v d->Rl X.C F ι u j->f m d j=aa r->wpAny X.C.md A (call (ym b) [v,u]) (cg X.C K F ι env (.ok r m)<|Rl X.C) E s):
  aD X.C.md A (call (ym b) vs) Q E s:=by
 refine fw (age ((hf l m).symm.trans hr) hb) λd j B M=>?_;subst B;exact cP h.two λv u B O P=>rwl B (sk M hb hQ λw q=>go v u d j w O P q)
theorem adv(x:FS X.C K F ι m env s)(hh:A.handled=ag){d r:V}(hv:Rl X.C F ι v d)(hr:lq m d=aa r):wpAny X.C.md A (call (.type "bytes") [v]) (cg X.C K F ι env (.ok r m)<|Rl X.C) E s:=by
 unfold lq at hr;generalize B:rv m d=M at hr;induction M using V.casesOn with
 |lst l=>
  exact lg hr λc hr=>ej hr λP O J=>rws J<|Y6 x hh hv B O c
 |bar l=>
  exact dA hr λc J=>rws J<|Zw x hv B c
 |bb l=>exact rws (bf hr) (Zv x<|cF (tF B) hv)
 |_=>exact bk hr
theorem agf(hr:JN m d=r)(hb:r≠.H):∃b,d=.bb b/\b.length<=1000000/\.ok (.ref m.length) (m++[O.bar b])=r:=by
 induction d using V.casesOn with
 |bb b=>
  by_cases c:b.length<=1000000
  ·exact cu b rfl c<|(aC c).symm.trans hr
  ·exact aT ((aB c).symm.trans hr).symm hb
 |_=>exact aT hr.symm hb
theorem agg(W:X.nH)(x:FS X.C K F ι m env s)(hh:A.handled=ag){vs:Ld}(h:aU X.C F ι vs l)(hr:qF b l m=r)(hb:r≠.H)(hQ:jg X.C K F ι env r (Rl X.C) Q):
  aD X.C.md A (call (ym b) vs) Q E s:=by
 induction b using BI.casesOn with
 |len=>
  refine AN (f:=ma) (λZ Z=>rfl) h hr hb hQ λv d r B e=>?_;refine gl λR J=>?_;refine lZ e λn k e=>?_;refine dA e λc M=>?_;refine J ?_;exact rws M<|ai4 x B k c
 |range=>exact sk (o:=D3 l) hr hb hQ λw q=>adu x h q
 |sum=>
  refine AN (f:=EO) (λZ Z=>rfl) h hr hb hQ λv d r B e=>?_;refine gl λR J=>?_;refine cO e λa S e=>?_;refine ej e λD p M=>?_;refine J ?_;exact rws M<|ai5 x hh B S p
 |min=>exact I0 (f:=λZ=>EP) (λZ Z=>rfl) h hr hb hQ λv u d j r B O e=>ai8 x hh B O e
 |max=>exact I0 (f:=λZ=>ER) (λZ Z=>rfl) h hr hb hQ λv u d j r B O e=>ai9 x hh B O e
 |sorted=>
  refine AN (f:=DM) (λZ Z=>rfl) h hr hb hQ λv d r B e=>?_;refine gl λR J=>?_;refine cO e λi T e=>?_;refine cO e λa t e=>?_;refine dA e λc M=>?_;refine J ?_;exact rws M<|abN x hh (cF T B) t c.1 c.2
 |bytes=>exact AN (f:=lq) (λZ Z=>rfl) h hr hb hQ λv d r B e=>adv x hh B e
 |bytearray=>
  refine gl λR J=>?_;refine bo (RB (g:=JN m) hr hb) λd V z=>?_;subst V;refine cA (agf z hb) λG T c Y=>?_;refine bo h.one λv V B=>?_;refine J ?_;exact rwl V (P.mono (Zt x (cF T B) c) (rwl Y hQ) λZ Z y=>y)
 |tuple=>
  refine AN (f:=Am) (λZ Z=>rfl) h hr hb hQ λv d r B e=>?_;refine gl λR J=>?_;refine cO e λa S e=>?_;refine dA e λc M=>?_;refine J ?_;exact rws M<|adl x B S c
 |isinstance=>exact I0 (f:=A3) (λZ Z=>rfl) h hr hb hQ λv u d j r B O e=>aja W x B O e
theorem agh(b):bootBuiltins (gG b)=aa (ym b):=by induction b using BI.casesOn with|len=>exact PyProof.Rows.Boot.«len»|range=>exact PyProof.Rows.Boot.«range»|sum=>exact PyProof.Rows.Boot.«sum»|min=>exact PyProof.Rows.Boot.«min»|max=>exact PyProof.Rows.Boot.«max»|sorted=>exact PyProof.Rows.Boot.«sorted»|bytes=>exact PyProof.Rows.Boot.«bytes»|bytearray=>exact PyProof.Rows.Boot.«bytearray»|tuple=>exact PyProof.Rows.Boot.«tuple»|isinstance=>exact PyProof.Rows.Boot.«isinstance»
theorem aln(W:X.Wf)(I:X.nH)(hs:X.sc.names.lookup (gG b)=aa .globalImplicit)(h:lI X es ds)(hp:es.all gS=ae):SE X (.Call (.Name (gG b) a) es [] pos) (.bi b ds):=.intro λO A x r B hQ J=>
 P.Call_Name (P.of (GS O.make.kind (show _=_ by unfold Env.kindOf;rw[O.sc];exact hs) (loadGlobal_builtin (rwl O.make.dB<|x.wd.g _ x.st.fz) (W.bi b) (rwl O.make.blt<|x.wd.b _ x.st.fz) ((x.wd.bt (gG b) (by induction b using BI.casesOn<;>exact dc rfl)).trans<|agh b)
  (P.callWith_of (K:=X.C.K) (P:=λZ=>True) (Hz _ _ hp) (λh Z=>i12 (.machine) (.inr<|.inl rfl) (.of_pure (by induction b using BI.casesOn<;>rfl))) (Hs hp (h.cC O A x (f:=λE m=>qF b E m) r B J λE ds m F ι s r M Q x R=>⟨trivial,agg I x A.hd R r B<|hQ.up M Q⟩)))) (by induction b using BI.casesOn<;>exact dc rfl)))
end
section
variable{C:Cx}{K:FC}{F F':Fz}{ι av:lk}{m m':J}{env:Env}{s s':az}{A:bL}{E:Ar}
theorem Fm.make(d:Fm C K F ι env h g)(P:Pv K.bc F ι h.objs.size)(hf:o.isFreed=aq:=by rfl):Fm C (K.put h.objs.size o) F ι env (h.push o) g:=by
 have J:=rn h;have f:Fm C K F ι env (h.push o) g:=d.move (.refl F) (.refl ι) λa u P e=>⟨eT _ e,P⟩;have m:∀{b}{q},h.get? b=aa q->h.objs.size≠b:=λe q=>by rw[<-q,J] at e;exact bk e
 refine⟨f.ns,f.pv,f.ba,f.ij,f.qG,f.i4,f.oX,f.one,f.mD,λa M e=>?_,?_⟩
 ·rcases sS.mp e with h|h
  ·cases h
   refine vJ P (mT _ hf) ?_ (λk y s O A=>?_) λk y c s R S T V q=>?_
   ·exact vL d.ns λw Z Z Y Z=>m Y
   ·refine bu O λi B=>?_;have:=d.ba k y _ s B (d.mD k y s ⟨i,B⟩).1;replace this:=(A)▸this;cases this with|own _ e _=>exact m e rfl
   ·refine aW (d.ij V k y _ s (cT R) S) λj Z=>?_;refine cP j λx v E l Z=>bo l λz n Z=>?_;rw[show K.p.cells.lookup y=aa c from T] at E;(have r:=bf E;subst r);exact m n q.symm
  ·exact f.ex a M h
 ·rw[show(K.put h.objs.size o).ex=(h.objs.size,o)::K.ex from rfl,iN,mW];exact⟨λA=>j8 A λp t e=>m (d.ex p.1 p.2 t).2.1 e.symm,d.jf⟩
theorem Fm.EW(f:Fm C (K.put D o) F ι env h g)(hF:Le F F')(dK:Pre ι av)(hk:∀a ob,a≠D->Pv K.bc F ι a->h.get? a=aa ob->h'.get? a=aa ob/\Pv K.bc F' av a):Fm C K F' av env h' g:=
 yC (f.ex D o dE) λI L S i j=>jQ f.ns λl n p T m s r=>
  ⟨ee l n p ((hk _ _ (nQ S) f.pv T).1) m s r,(hk _ _ (nQ S) f.pv T).2,λk y B A m s=>(f.ba k y B A m s).ET hF dK λa ob J t P e=>hk a ob (λw=>i k y A (J.elim λq u=>⟨q,rws u m⟩)<|rws w t) P e,
   λV k y B A m s=>aW (f.ij V k y B A m s) λc no=>gx c λc v E M O R=>M.elim λY q=>have w:=hk c Y (j k y c A (List.getElem?_eq_some_iff.mp m).1 s E V) R q.1
    ⟨jP c v E (i12 Y w.1 q.2) (O.ET hF dK λa ob J Z Z Z=>J.elim λo q=>aT q<|no o) w.2,no⟩,
   λk y B A m s=>(f.qG k y B A m s).imp id λq=>iG q λc ob v d E M x O R q6=>qD c ob v d E M x O R<|q6.mono hF dK,f.i4,f.oX,f.one,f.mD,
   λa q b=>fW (f.ex a q<|dT _ b) λz G H=>have w:=hk a q (λw=>(mW.mp f.jf).1<|List.mem_map.mpr<|i12 (a,q) b w) z G;(cv w.2 w.1 H),(mW.mp f.jf).2⟩
theorem Fm.grown(f:Fm C (K.put D o) F ι env h c)(hs:dp D h h')(ho:h'.get? D=aa d):Fm C (K.put D d) F ι env h' c:=
 have b:=f.EW (.refl F) (.refl ι) λa m s P e=>⟨hs a m s e,P⟩
 ⟨b.ns,b.pv,b.ba,b.ij,b.qG,b.i4,b.oX,b.one,b.mD,λa q A=>(sS.mp A).elim (λw=>fW (f.ex D o dE) λB Z E=>by cases w;exact cv B ho E)<|b.ex a q,f.jf⟩
theorem FS.make(x:FS C K F ι m env s)(hf:o.isFreed=aq:=by rfl):FS C (K.put s.heap.objs.size o) F ι m env {s with heap:=s.heap.push o}:=by have g:FS C K F ι m env {s with heap:=s.heap.push o}:=x.grow (t:=s.toks) λb E e=>eT _ e;exact bu x.fm λA B=>⟨g.st,⟨A,B.make (x.st.jz<|rn s.heap) hf⟩,x.wd⟩
structure Made(K:FC)(F:Fz)(ι:List aH)(D:aH)(s:az):Prop where
 pv:Pv K.bc F ι D
 ne:∀a o,(a,o)∈K.ex->a≠D
theorem FS.done(x:FS C (K.put D o) F ι m env s):FS C K F ι m env s/\s.heap.get? D=aa o/\Made K F ι D s:=by refine bu x.fm λB f=>?_;have e:=f.ex D o dE;refine⟨⟨x.st,⟨B,f.ns,f.pv,f.ba,f.ij,f.qG,f.i4,f.oX,f.one,f.mD,λa A h=>f.ex a A<|dT _ h,(mW.mp f.jf).2⟩,x.wd⟩,e.2.1,e.1,λa A h q=>?_⟩;have:=(mW.mp f.jf).1;exact this<|List.mem_map.mpr<|i12 (a,A) h q
theorem FS.grown(x:FS C (K.put D o) F ι m env s)(hs:dp D s.heap h')(ho:h'.get? D=aa a):FS C (K.put D a) F ι m env {s with heap:=h',toks:=t}:=bu x.fm λA f=>⟨x.st.yk (f.ex D o dE).1 hs,⟨A,f.grown hs ho⟩,x.wd⟩
theorem FS.Ky(x:FS C (K.put D o) F ι m env s)(hs:dp D s.heap h'):FS C K F ι m env {s with heap:=h',toks:=t}:=
 x.fm.elim λA f=>⟨x.st.yk (f.ex D o dE).1 hs,⟨A,f.EW (.refl F) (.refl ι) λa B E P e=>⟨hs a B E e,P⟩⟩,x.wd⟩
theorem FS.frozen(x:FS C (K.put D o) F ι m env s):FS C K (F.put D o) ι m env s/\Le F (F.put D o):=
 fW x.done λy B M=>have A:Le F (F.put D o):=.put M.pv.fr
  ⟨x.fm.elim λE f=>⟨y.st.freeze M.pv B,⟨E,f.EW A (.refl ι) λa O J P e=>⟨e,P.new,(aB J).trans P.fr,P.ni⟩⟩,y.wd.mono A⟩,A⟩
theorem FS.agi(x:FS C (K.put D ob) F ι m env s)(hr:di C F ι ob o)(b:(D==sysModules)=aq):FS C K F (ι++[D]) (m++[o]) env s/\Pre ι (ι++[D]):=
 fW x.done λy B M=>have A:=Pre.append ι [D]
  ⟨x.fm.elim λE f=>⟨y.st.Eh M.pv B hr b,⟨E,f.EW (.refl F) A λa ob J P e=>⟨e,P.new,P.fr,λO=>(List.mem_append.mp O).elim P.ni λq=>J<|GL.mp q⟩⟩,y.wd⟩,A⟩
end
noncomputable def putK(p:fP->Bool)(a:Int)(key v:ar):List fP->List fP|[]=>[⟨a,key,v⟩]|e::r=>if p e then⟨e.hash,e.key,v⟩::r else e::putK p a key v r
theorem JW:putK p a key v (e::r)=if p e then⟨e.hash,e.key,v⟩::r else e::putK p a key v r:=rfl
theorem HT(p)(a)(key v):∀es,
  (match es.findIdx? p with|some i=>es.modify i (λe=>⟨e.hash,e.key,v⟩)|none=>es++[⟨a,key,v⟩])=putK p a key v es
 |[]=>rfl|e::r=>by have B:=HT p a key v r;rw[List.findIdx?_cons,JW ..];induction h:p e using aS with|true=>rfl|false=>rw[aB dq,aB dq,<-B];induction List.findIdx? p r using aO with|none=>rfl|some i=>exact List.modify_succ_cons _ _ _ _
section
variable{prog:fO}{w:eh}{A:bL}{E:Ar}{s:az}{K:Type}[DecidableEq K]{knd:KeyKind prog w K}
theorem PC(c:knd.is k key=ae)(ho:s.heap.get? d=aa o)(hc:o.ExactDict)(hd:o.data=.dict es ep)(hk:KeysOf knd es)(hz:es.size<=sizeLine)
  (hQ:∀h' a b f,h'.get? d=aa a->a.ExactDict->a.data=.dict b f->f+es.size=ep+b.size->b.toList=putK (λe=>knd.is k e.key) (knd.hash k) key v es.toList->dp d s.heap h'->Q () {s with heap:=h',toks:=s.toks+1}):
  wpAny (model prog w) A (dictSet d key v) Q E s:=by
 have B:=HT (λe=>knd.is k e.key) (knd.hash k) key v es.toList;refine jn<|aI<|knd.pyHash c<|jn<|aI<|wpAny_dictFind_of (s:={s with toks:=s.toks+1}) c ho hd hk ?_;rw[show(es.findIdx? λe=>knd.is k e.key)=es.toList.findIdx? λe=>knd.is k e.key by induction es using Array.casesOn;simp];induction J:es.toList.findIdx? λe=>knd.is k e.key using aO with
 |some i=>
  rw[J] at B;refine aI (pN (aI (wpAny_updateDict (s:={s with toks:=s.toks+1}) ho hd (GH (hQ _ _ _ ep (pK _ ho<|M0<|M1 hd _)
   (hc.mapDict _) (M1 hd _) (by simp) ?_ (pM ..).extBut)))))
  rw[<-B,aoJ]
 |none=>
  rw[J] at B;refine aI (pN (aoK (hz:=hz) (hf:=dn<|Xk ..) (s:={s with toks:=s.toks+1}) ho hd (hQ _ _ _ (ep+1) (pK _ ho<|M0<|M2 hd _)
   (hc.mapDictKeys _) (M2 hd _) (by simp;lia) ?_ (pM ..).extBut)))
  rw[<-B,M3]
end
section
variable{C:Cx}{K:FC}{F F':Fz}{ι av:lk}{m m':J}{env:Env}{s s':az}{A:bL}{E:Ar}
theorem cn.put(h:Rl C F ι v d)(r:cn C F ι es l):cn C F ι (putK (λe=>sO x e.key) (hashStr C.w x) (.str x t) v es) (putD (aF x) d l):=by
 refine r.ind (P:=λes l=>cn C F ι (putK (λe=>sO x e.key) (hashStr C.w x) (.str x t) v es)<|putD (aF x) d l) (.cons rfl rfl h .nil) λe y u E es J m s A r B=>?_;rw[JW ..,ak8 ..];by_cases q:aF x=aF y
 ·rw[aC (show sO x e.key=ae by rw[m];exact bO.mpr (j1 q).symm),aC q];exact .cons m s h r
 ·rw[aB (show¬sO x e.key=ae by rw[m];exact λh=>q<|aw aF (bO.mp h).symm),aB q];exact .cons m s A B
theorem eB.put(h:Rl C F ι v d)(r:eB C F ι es l):eB C F ι (putK (λe=>mU i e.key) (hashInt i) (.int i t) v es) (mj i d l):=by
 induction r with|nil=>exact .cons rfl rfl h .nil|@cons e j u E es J m s A r B=>
  rw[JW ..,JM ..];by_cases q:i=j
  ·rw[aC (show mU i e.key=ae by rw[m];exact bO.mpr q.symm),aC q];exact .cons m s h r
  ·rw[aB (show¬mU i e.key=ae by rw[m];exact λh=>q (bO.mp h).symm),aB q];exact .cons m s A B
theorem cn.keysOf(r:cn C F ι es.toList l):KeysOf (strKind C.prog C.w) es:=λe m=>fw (r.isStr e<|Array.mem_toList_iff.mpr m) λx t s A=>i12 x (rwl s<|sP _ _ x t) A
theorem eB.keysOf(r:eB C F ι es.toList l):KeysOf (intKind C.prog C.w) es:=λe m=>fw (r.isInt e<|Array.mem_toList_iff.mpr m) λx t s A=>i12 x (rwl s<|wB _ _ x t) A
theorem cn.length(r:cn C F ι es l):es.length=l.length:=r.ind (P:=λes l=>es.length=l.length) rfl λZ Z Z Z Z Z Z Z Z Z y=>aw sJ y
theorem eB.length(r:eB C F ι es l):es.length=l.length:=by induction r with|nil=>rfl|cons _ _ _ _ m=>exact aw sJ m
theorem cn.size{es:Array fP}(r:cn C F ι es.toList l):es.size=l.length:=rws (kX (xs:=es)) r.length
theorem eB.size{es:Array fP}(r:eB C F ι es.toList l):es.size=l.length:=rws (kX (xs:=es)) r.length
theorem set_str(ho:s.heap.get? d=aa o)(hc:o.ExactDict)(hd:o.data=.dict es es.size)(hr:cn C F ι es.toList l)(hv:Rl C F ι v dv)(hz:l.length<=1000000)
  (hQ:∀h' a b,h'.get? d=aa a->di C F ι a (.aA<|putD (aF x) dv l)->dp d s.heap h'->Q () {s with heap:=h',toks:=b}):wpAny C.md A (dictSet d (.str x t) v) Q E s:=by
 refine PC (knd:=strKind C.prog C.w) (sP _ _ x t) ho hc hd hr.keysOf (iR<|rwl hr.size hz) λh' a O P B J m h6 K M=>?_;rw[M4<|h6.trans<|jY _ _] at m;exact hQ _ _ _ B (.aA J m<|rwl K<|cn.put hv hr) M
theorem set_int(ho:s.heap.get? d=aa o)(hc:o.ExactDict)(hd:o.data=.dict es es.size)(hr:eB C F ι es.toList l)(hv:Rl C F ι v dv)(hz:l.length<=1000000)
  (hQ:∀h' a b,h'.get? d=aa a->di C F ι a (.bW<|mj i dv l)->dp d s.heap h'->Q () {s with heap:=h',toks:=b}):wpAny C.md A (dictSet d (.int i t) v) Q E s:=by
 refine PC (knd:=intKind C.prog C.w) (wB _ _ i t) ho hc hd hr.keysOf (iR<|rwl hr.size hz) λh' a O P B J m h6 K M=>?_;rw[M4<|h6.trans<|jY _ _] at m;exact hQ _ _ _ B (.bW J m<|rwl K<|eB.put hv hr) M
end
section
variable{prog:fO}{w:eh}{A:bL}{E:Ar}{s:az}
theorem RC(ho:s.heap.get? l=aa {cls:=.type "list",data:=.seq vs n})(f):
  ∃a,(s.heap.update l<|Obj.mapSeq f).get? l=aa {cls:=.type "list",data:=.seq (f vs) a}:=
 ⟨_,get?_update_seq (c:="list") (n:=n) ho f⟩
theorem agj{k:Int}(ho:s.heap.get? l=aa {cls:=.type "list",data:=.seq vs n})(c:0<=k)(hn:k<vs.size)(b:k<2^63)
  (hQ:∀h' a,h'.get? l=aa {cls:=.type "list",data:=.seq (vs.setIfInBounds k.toNat v) a}->dp l s.heap h'->Q () {s with heap:=h'}):
  wpAny (model prog w) A (setItem (.ref l) (.int k t) v) Q E s:=by
 have B:s.TypeIs (.ref l) "list":=i12 _ ho rfl;unfold setItem;refine jn<|aI<|Xi B (dc rfl) ?_;refine aI (M5 (name:=GZ "__setitem__") B slot_list_setitem
  (wG slot_list_setitem B entry_list_setitem ?_<|args_list_setitem _ _ _))
 refine(?_:wpAny _ _ (Builtin.List.listSubscript? (.int k t)>>=_) _ _ s);refine aI (wpAny_listSubscript_int (fitsIndex_of c b) (bu (Int.eq_ofNat_of_zero_le c) λj M=>?_));subst M;have O:j<vs.size:=by lia
 have J:=MX O;refine(?_:wpAny _ _ ((seqItemAt l j>>=λr=>pure (r.map (j,·)))>>=_) _ _ s);refine aI<|aI<|wpAny_seqItemAt ho rfl<|bE ?_;rw[J];refine(?_:wpAny _ _ (setSeqItemAt l j v>>=_) _ _ s);refine bu (RC ho (·.setIfInBounds j v)) λa h'=>aI<|wpAny_setSeqItemAt ho rfl ?_;first
  |exact aI (bE<|bE<|i12 (.none) rfl<|bE<|hQ _ a h' (pM ..).extBut)|exact bE (i12 (.none) rfl<|bE<|hQ _ a h' (pM ..).extBut)
theorem OS(ho:s.heap.get? l=aa {cls:=.type "list",data:=.seq vs n})(hz:vs.size<=sizeLine)
  (hQ:∀h' a,h'.get? l=aa {cls:=.type "list",data:=.seq (vs.push v) a}->dp l s.heap h'->Q .none {s with heap:=h'}):
  wpAny (model prog w) A (call (.builtin "list.append") [.ref l,v]) Q E s:=by
 have B:s.TypeIs (.ref l) "list":=i12 _ ho rfl;refine bu (RC ho (·.push v)) λa h'=>wG slot_list_append B entry_list_append ?_<|args_list_append _ _;refine(?_:wpAny _ _ (updateSeq l (·.push v)>>=λZ=>ret .none) _ _ s);exact aI<|wpAny_updateSeq ho rfl (bE<|i12 (.none) rfl<|hQ _ a h' (pM ..).extBut) hz<|au (dn<|Xk ..)<|gZ hz
theorem Qu(a:s.TypeIs (.ref d) "dict")(h:∀A,wpAny (model prog w) A (dictSet d key v) Q E s):
  wpAny (model prog w) A (setItem (.ref d) key v) Q E s:=by
 unfold setItem;refine jn<|aI<|Xi a (dc rfl) ?_;refine aI (M5 (name:=GZ "__setitem__") a slot_dict_setitem
  (wG slot_dict_setitem a entry_dict_setitem ?_<|args_dict_setitem _ _ _))
 refine(?_:wpAny _ _ (Builtin.Dict.notOrdered "__setitem__" ⟨[.ref d,key,v],[]⟩>>=_) _ _ s);refine aI<|wpAny_notOrdered_dict a ?_;refine(?_:wpAny _ _ (dictSet d key v>>=_) _ _ s);exact aI (fh (h _) (λZ J B=>bE<|i12 (.none) rfl<|bE B) λZ Z e=>e)
end
section
variable{C:Cx}{K:FC}{F F':Fz}{ι av:lk}{m m':J}{env:Env}{s s':az}{A:bL}{E:Ar}
theorem FS.A9(x:FS C K F ι m env s)(r:Rl C F ι v (.ref i))(e:m[i]?=aa o):∃a ob,v=.ref a/\ι[i]?=aa a/\s.heap.get? a=aa ob/\di C F ι ob o:=bo r.inv λa A h=>bo (x.dat h e) λob B E=>jP a ob A h B E
theorem ajb(x:FS C K F ι m env s)(hv:Rl C F ι v d)(hi:Rl C F ι i j)(b:Rl C F ι u r)(e:Jl m d j r=aa m'):
  wpAny C.md A (setItem v i u) (λZ s'=>FS C K F ι m' env s') E s:=by
 refine cO e λk z e=>?_;generalize D:m[k]?=o at e;induction o using aO with
 |none=>exact bk e
 |some o=>
  refine gx (x.A9 (cF z hv) D) λa h B Y M f=>rwl B ?_;induction o using O.casesOn with
  |lst l=>
   refine cO (show(j.dw.bind λi=>if 0<=i.1/\i.1<l.length/\l.length<1000000 then aa (m.set k<|.lst<|l.set i.1.toNat r) else ag)=aa m' from e) λq P e=>dA e λc e=>fB (cF P hi) λt B=>rwl B (gx f.inv λN n J R S p=>?_);rw[xB J R S] at M;exact e▸agj M c.1 (rwl p.size c.2.1) (by have:=c.2;dsimp only at this;lia) λw Q T V=>x.upd (t:=s.toks) Y V T (.lst rfl rfl ⟨rfl,rfl⟩ (by rw[Array.toList_setIfInBounds];exact p.set _ b))
  |aA l=>
   exact cO (show(j.oJ.bind λy=>if l.length<100000 then aa (m.set k<|.aA<|putD y.1 r l) else ag)=aa m' from e) λy P e=>dA e λc e=>tw (cF P hi) λU t B G=>rwl B (cA f.inv λH J R S=>e▸Qu (i12 h M J.1) λA=>set_str M J R S b (au (eg c) (by decide)) λw I L T V g=>x.upd Y g T (G▸V))
  |bW l=>
   exact cO (show(j.dw.bind λy=>if l.length<100000 then aa (m.set k<|.bW<|mj y.1 r l) else ag)=aa m' from e) λy P e=>dA e λc e=>fB (cF P hi) λt B=>rwl B (cA f.inv λH J R S=>rws e (Qu (i12 h M J.1) λA=>set_int M J R S b (au (eg c)<|dl rfl) λw I L T V g=>x.upd Y g T V))
  |_=>exact bk e
theorem ajc(x:FS C K F ι m env s)(hv:Rl C F ι v d)(b:Rl C F ι u r)(e:Fg m d r=aa m'):
  wpAny C.md A (call (.builtin "list.append") [v,u]) (cg C K F ι env (.ok .none m')<|Rl C) E s:=by
 refine gl λi M=>?_;refine cO e λk O e=>?_;refine cO e λl P e=>dA e λc e=>?_;refine gx (x.A9 (cF O hv) P) λa j R S B T=>?_;refine M ?_;refine rwl R (gx T.inv λo n V Y f J=>?_);rw[xB V Y f] at B;exact rws e (OS B (J.JR (au (eg c) (by decide))) λp q g h=>.mk rfl (x.upd (t:=s.toks) S h g (.lst rfl rfl ⟨rfl,rfl⟩ (by rw[M3];exact J.append (.cons b .nil)))) .none)
end
section
namespace P
section
variable{prog:fO}{w:eh}{A:bL}{E:Ar}{s:az}{env:gA}
theorem OA{T id:String}(f:PlainAttrs T)(slot:uB T name id)(g:typeOf (.builtin id)=nN (.type "method_descriptor"))
  (i:attributeBase o name env (eval o env)=eval o env)(hn:gS e=ae)(j:(apos.endLine==pos.line)=ae)
  (h:aD (model prog w) A (eval o env) (λb c=>c.TypeIs b T/\(∀a,b=.ref a->∃ob,c.heap.get? a=aa ob/\ob.dict=ag)/\
   aD (model prog w) A (eval e env) (λy d=>aD (model prog w) A (wA (.builtin id) [b,y]) Q E d) E c) E s):
  aD (model prog w) A (eval (.Call (.Attribute o name apos) [e] [] pos) env) Q E s:=by
 rw[arm_eval_Call ..,i];refine bind (mono h (λb c J=>bind (standAt (fW J λM O R=>?_))) λZ Z x=>x);have B:starEach [e] env=[(aq,eval e env)]:=zw hn;have S:methodCallForm (([e]:List bj).length+([]:List Keyword).length) (backTo pos<|starEach [e] env) (backToKw pos<|keywordEach [] env)=ae:=by rw[B];rfl
 have V:methodCallPos ae o env apos pos=nN pos:=by unfold methodCallPos;simp[j]
 unfold methodCall;rw[S];refine bind<|holding<|of<|getMethod_builtin M f slot g O<|bz<|cV V ?_;rw[B];exact callWith_of (K:=[]) (P:=λZ=>True) rfl (λh Z=>i12 (.machine) (.inr<|.inl rfl)<|.of_pure rfl) (evalArgs_plain (uM (pos:=pos) (rest:=[]) (mono R (λy d Y=>of<|GP ⟨trivial,Y⟩) λZ Z x=>x)))
end
end P
section
variable{X:Fx}
theorem fp:SE X e .H:=λZ Z Z Z Z Z Z Z Z Z B=>aT rfl B
noncomputable def LL(b:Bool)(k:J->R V)(m:J):R V:=match b with|true=>k m|false=>.H
theorem S6(hr:LL b k m=r)(hb:r≠.H):b=ae/\k m=r:=by induction b using aS with|true=>exact⟨rfl,hr⟩|false=>exact aT hr.symm hb
theorem ajd(hr:R.st o=r)(hb:r≠.H):∃m,o=aa m/\.ok .none m=r:=by induction o using aO with|none=>exact aT hr.symm hb|some m=>exact i12 m rfl hr
theorem abO(h:d9 m d=ae):∃i l,d=.ref i/\m[i]?=aa (.lst l):=by
 induction d using V.casesOn with
 |ref i=>
  change AI m[i]?=ae at h;generalize B:m[i]?=o at h;induction o using aO with
  |none=>exact iI h
  |some o=>induction o using O.casesOn with
   |lst l=>exact iY i l rfl B
   |_=>exact iI h
 |_=>exact iI h
theorem abP(h:A4 m d=ae):∃l,rv m d=.aA l:=by unfold A4 at h;induction q:rv m d using V.casesOn with|aA l=>exact⟨l,rfl⟩|_=>rw[q] at h;exact iI h
theorem agk(h:SE X o d)(hi:SE X e j)(k:∀env,attributeBase o "append" env (eval o env)=eval o env)(hn:gS e=ae)(n:(apos.endLine==pos.line)=ae):
  SE X (.Call (.Attribute o "append" apos) [e] [] pos) (.hO d j):=.intro λ{_ _ _ _ env _ _ _ _ _} O J x B E hQ M=>
 P.OA PySem.F.plainAttrs_list slot_list_append PySem.F.type_list_append (k _) hn n (h.cC O J x (f:=λv m=>LL (d9 m v) (λm=>R.bind (bI X.ok X.κ env m j) λu m=>R.st<|Fg m v u) m) B E M λv d m F ι s B S l2 x r=>by refine gl λG p=>?_;refine aW (S6 B E) λq B=>?_;refine fw (abO q) λi l t w=>gx (x.A9 (cF t r) w) λa T V H Y z=>?_;refine gx z.inv λZ Z A I C K=>?_;refine p ?_;exact⟨by rw[V];exact i12 T Y A,λb e=>i12 T (by rw[<-pH (V.symm.trans e)];exact Y) C.1,hi.cC O J x B E (M.up S l2) λu j m F ι s B c g x D=>(ajd B E).elim λL e=>P.mono (P.of<|ajc x (r.mono c g) D e.1) (rwl e.2<|hQ.up (S.trans c)<|l2.trans g) λZ Z y=>y⟩)
theorem aje{K:FC}{env:Env}{s:az}{A:bL}{E:Ar}(x:FS C K F ι m env s){v u:ar}{d j r:V}(hv:Rl C F ι v d)(b:Rl C F ι u j)(e:Br m d j=aa r):
  wpAny C.md A (call (.builtin "dict.get") [v,u]) (cg C K F ι env (.ok r m)<|Rl C) E s:=by
 refine gl λq S=>?_;refine cO e λl T e=>?_;refine vm e λy X Y=>?_;refine tw (cF X b) λB t c f=>?_;refine S ?_;refine rwl c (HO x hv T λa o z n g h i P k=>?_);have R:=Kv (C:=C) g h i P;refine wG aoL R.typeIs PySem.F.entry_dict_get ?_<|PySem.F.args_dict_get_2 _ _;refine(?_:wpAny _ _ (dictGet a (.str B t)>>=_) _ _ s);refine aI<|wpAny_dictGet_of (sP _ _ B t) R ?_;rw[<-(show(look y l).getD .none=r from Y),<-f];refine bZ (P.findBy B) (λJ=>cP J λw D M O p=>?_) λJ=>aW J λM O=>?_
 ·rw[M,O];exact bE<|i12 _ rfl<|.mk rfl (x.tok _) p
 ·rw[M,O];refine(?_:wpAny _ _ (Builtin.Dict.missed a (.str B t)>>=_) _ _ _);exact aI<|wpAny_missed_other k<|bE<|i12 (.none) rfl<|.mk rfl (x.tok _) .none
theorem agl(h:SE X o d)(hi:SE X e j)(k:∀env,attributeBase o "get" env (eval o env)=eval o env)(hn:gS e=ae)(p:(apos.endLine==pos.line)=ae):
  SE X (.Call (.Attribute o "get" apos) [e] [] pos) (.qr d j):=.intro λ{_ _ _ _ env _ _ _ _ _} O J x B E t M=>
 P.OA PySem.F.plainAttrs_dict aoL PySem.F.type_dict_get (k _) hn p (h.cC O J x (f:=λv m=>LL (A4 m v) (λm=>R.bind (bI X.ok X.κ env m j) λu m=>R.of m<|Br m v u) m) B E M λv d m F ι s B S l2 x r=>by refine gl λD y=>?_;refine aW (S6 B E) λz B=>?_;refine bu (abP z) λl A=>?_;refine iG (Ih x r A) λa T G n V Y c H g4 I=>?_;refine y ?_;exact⟨by rw[V];exact i12 T Y c.1,λb e=>i12 T (by rw[<-pH (V.symm.trans e)];exact Y) c.2.1,hi.cC O J x B E (M.up S l2) λu j m F ι s B g i x C=>sk B E (t.up (S.trans g)<|l2.trans i) λw q=>aje x (r.mono g i) C q⟩)
end
end
inductive vU(C:Cx)(F:Fz)(ι:List aH):List (ar×ar)->List (V×V)->Prop where|nil:vU C F ι [] []|cons{k v:ar}{d j:V}{ps:List (ar×ar)}{qs:List (V×V)}(hk:Rl C F ι k d)(hv:Rl C F ι v j)(r:vU C F ι ps qs):vU C F ι ((k,v)::ps) ((d,j)::qs)
section
variable{X:Fx}
noncomputable def uk(X:Fx)(ks:List (Option bj))(vs:List bj)(ds:List (E×E)):Prop:=
 ∀(K)(F)(ι)(m)(B)(s)(A)(pos),X.Of K->cI X.lv A K.all->FS X.C K F ι m B s->gF X.ok X.κ B m ds≠.H->
  aD X.C.md A (evalPairs<|pairTrees ks vs K.p pos) (cg X.C K F ι B (gF X.ok X.κ B m ds)<|vU X.C) (kG X.C K F ι B<|gF X.ok X.κ B m ds) s
theorem RD:uk X [] [] []:=λZ Z Z Z Z Z Z Z Z Z x Z=>P.pure<|.mk rfl x .nil
theorem Qv(h1:SE X k a)(h2:SE X v b)(e:uk X ks vs ds):uk X (aa k::ks) (v::vs) ((a,b)::ds):=λK F ι m B s A pos O J x M=>by refine(?_:aD _ _ (evalPairs ((eval k K.p,do let x<-eval v K.p;lQ pos;pure x)::pairTrees ks vs K.p pos)) _ _ _);rw[evalPairs];exact P.bind (h1.cC O J x (f:=λv m=>R.bind (bI X.ok X.κ B m b) λu m=>R.bind (gF X.ok X.κ B m ds) λvs m=>R.ok ((v,u)::vs) m) rfl M .self λv d m F ι s E S l2 x r=>P.bind (P.holding (P.bind (h2.cC O J x E M (eL.self.up S l2) λu j m F ι s E T V x g=>P.bind (P.standAt (P.pure (P.bind (P.holding (cC (e _ _ _ _ _ _ _ pos O J x) E M (eL.self.up (S.trans T)<|l2.trans V) λvs ds m F ι s E Y c x h=>P.pure<|.mk' E.symm ((S.trans T).trans Y) ((l2.trans V).trans c) x<|.cons ((r.mono T V).mono Y c) (g.mono Y c) h)))))))))
theorem Ir(x)(v)(l):(putD x v l).length<=l.length+1:=by
 induction l with|nil=>exact dR _|cons p r B=>
  refine(?_:(if x=p.1 then _ else _:List _).length<=_);by_cases c:x=p.1
  ·rw[aC c];exact g0 _
  ·rw[aB c];exact gZ B
theorem Qw(e:j5 ((d,j)::ds)=aa l):∃y a,d=.str y/\j5 ds=aa a/\(y,j)::a=l:=by induction d using V.casesOn with|str y=>exact ej e λa B E=>fX y a rfl B E|_=>exact bk e
theorem OB{K:FC}{env:Env}{A:bL}{D:aH}{E:Ar}{Q:PUnit->az->Prop}{ps:List (ar×ar)}{a:List (V×V)}(h:vU C F ι ps a):∀{l acc:Lb}{s}{ob},j5 a=aa l->
  FS C (K.put D ob) F ι m env s->di C F ι ob (.aA acc)->acc.length+a.length<=1000->(∀b c,FS C (K.put D c) F ι m env b->di C F ι c (.aA<|eG acc l)->Q qZ b)->
  wpAny C.md A (forIn ps qZ λ(x:ar×ar)(Z:PUnit)=>(do dictSet D x.1 x.2;pure (wH qZ):Sem (ForInStep PUnit))) Q E s:=by
 induction h with|nil=>exact λe x B J M=>bE (M _ _ x<|rws (bf e) B)|@cons k v d j ps a O P r R=>
  intro l acc s ob e x B J M;refine cP (Qw e) λy u S T X=>tw (cF S O) λw t Y f=>rwl Y (cA B.inv λz g i n=>?_);rw[wI ..];subst X;exact aI (aI (set_str x.done.2.1 g i n P (au (cZ _ _)<|au J<|dc rfl) λG H I o p q=>bE
   (R T (x.grown q o) (f▸p) (au (sU (Ir _ _ _) _)<|rws (sF ..) J) M)))
theorem adw:∀{m}{vs}{m'},gF ok κ env m ds=.ok vs m'->vs.length=ds.length:=by induction ds with|nil=>intro m vs m' h;exact(R.ok.inj (show R.ok [] m=_ from h)).1▸rfl|cons p ds ih=>intro m vs m' h;exact R.uN (f:=λv m=>R.bind (bI ok κ env m p.2) λu m=>R.bind (gF ok κ env m ds) λvs m=>R.ok ((v,u)::vs) m) h λv m1 Z h=>R.uN h λu E Z h=>R.uN h λJ M B h=>rws (R.ok.inj h).1<|aw sJ<|ih B
noncomputable def Fu(g:Lb->R V)(o:Option (List<|Nm×V)):R V:=match o with|some l=>g l|none=>.H
theorem agm(hr:Fu g o=r)(hb:r≠.H):∃l,o=aa l/\g l=r:=by induction o using aO with|none=>exact aT hr.symm hb|some l=>exact i12 l rfl hr
theorem eL.drop{K:FC}{α:Type}{r:R α}{E:Ar}(h:eL C K F ι env r E):eL C (K.put D o) F ι env r E:=λe s y=>y.casesOn λwhy m F ι q B J x=>h e s ⟨why,m,F,ι,q,B,J,x.drop⟩
theorem PF(h:uk X ks vs ds)(c:ks.all (·.isSome)=ae)(hl:ks.length=vs.length)(hd:ks.length=ds.length)(k:ks≠[])(f:ks.length<=15)
  {K:FC}{F:Fz}{ι:lk}{m:J}{env:Env}{s:az}{A:bL}{Q:Ar}{i:Ar}{r:R V}{g:Lb->J->R V}(O:X.Of K)(n:cI X.lv A K.all)(x:FS X.C K F ι m env s)(hr:R.bind (gF X.ok X.κ env m ds) (λps m=>Fu (λl=>g l m)<|j5 ps)=r)(hb:r≠.H)(hE:eL X.C K F ι env r i)
  (go:∀D l m' a b j ob,g l m'=r->Le F a->Pre ι b->FS X.C (K.put D ob) a b m' env j->(D==sysModules)=aq->di X.C a b ob (.aA<|eG [] l)->Q (.ref D) j):
  aD X.C.md A (eval (.Dict ks vs pos) K.p) Q i s:=by
 have B:=Xl ks vs K.p pos c hl;have M:pairTrees ks vs K.p pos≠[]:=λS=>by rw[S] at B;exact k<|List.length_eq_zero_iff.mp B.symm
 rw[arm_eval_Dict ..,zip_pairTrees ks vs K.p pos c hl,dictDisplay_pairs _ M (by rw[B];exact bS (by assumption) (by decide))];refine P.bind<|P.standAt<|P.bind<|P.bz<|Xm<|P.bind<|P.holding ?_;rw[aC (by rw[B];exact f)];have T:=x.xX;refine P.bind (cC (rel:=λF ι v d=>vU X.C F ι v d/\d.length=ds.length) (K:=K.put s.heap.objs.size {cls:=.type "dict",data:=.dict #[]}) (λhb=>P.mono (h (K.put s.heap.objs.size {cls:=.type "dict",data:=.dict #[]}) F ι m env _ A pos (O.put _ _) n x.make hb) (λZ Z y=>y.casesOn λd m F ι e Y o x y=>⟨d,m,F,ι,e,Y,o,x,y,adw e⟩) λZ Z y=>y) hr hb hE.drop λps L m F ι s hr q t x E=>bo (agm hr hb) λl u hr=>?_);exact P.holding (P.bz (OB E.1 u x (.aA (es:=#[]) (cv rfl rfl rfl) rfl .nil) (by rw[E.2,<-hd];exact au (dn<|fQ _) (au f<|dl rfl)) λw z G I=>P.pure<|P.pure<|P.pure<|go _ l m F ι w z hr q t G T I))
theorem ajf(h:uk X ks vs ds)(a:ks.all (·.isSome)=ae)(hl:ks.length=vs.length)(hd:ks.length=ds.length)(b:ks≠[])(c:ks.length<=15):SE X (.Dict ks vs pos) (.aA ds):=.intro λO J x E M P S=>PF h a hl hd b c (g:=λl m=>R.ok (.aA<|eG [] l) m) O J x E M S λD l m F ι s k E T V x Y d=>cA d.inv λn e f i=>aW x.frozen λj B=>P.at' E (T.trans B) V j<|.aA (Fz.m6 ..) e f (i.mono B<|.refl ι) Y
theorem Fm.last{K:FC}(x:FS C K F ι m env s):(ι++[D])[m.length]?=aa D:=by rw[<-x.st.len];simp
theorem agn(h:uk X ks vs ds)(a:ks.all (·.isSome)=ae)(hl:ks.length=vs.length)(hd:ks.length=ds.length)(b:ks≠[])(c:ks.length<=15):SE X (.Dict ks vs pos) (.fq ds):=.intro λO E x B J M P=>PF h a hl hd b c (g:=λl m=>R.ok (.ref m.length)<|m++[Internal.O.aA<|eG [] l]) O E x B J P λD l m F ι s f B S T x V Y=>aW (x.agi Y V) λd e=>M.at' B S (T.trans e) d<|.ref<|Fm.last x
theorem N8{K:FC}{s:az}{A:bL}{E:Ar}(x:FS X.C K F ι m env s)(ho:di X.C F ι {cls:=.type "dict",data:=.dict #[]} o)(hr:r=.ok (.ref m.length) (m++[o])):
  aD X.C.md A (eval (.Dict [] [] pos) K.p) (cg X.C K F ι env r<|Rl X.C) E s:=by
 rw[eval_Dict_empty ..];exact P.bind<|P.standAt<|P.of<|sH (.mk' hr (.refl F) (x.Fh ho).2 (x.Fh ho).1<|.ref<|Fm.last x)<|nP _
theorem adx:SE X (.Dict [] [] pos) (.fq []):=λK F ι m B s A O E x J=>N8 x (.aA (es:=#[]) (cv rfl rfl rfl) rfl .nil) rfl
theorem ago:SE X (.Dict [] [] pos) .vA:=λK F ι m B s A O E x J=>N8 x (.bW (es:=#[]) (cv rfl rfl rfl) rfl .nil) rfl
theorem agp:SE X (.Dict [] [] pos) (.aA []):=λK F ι m B s A O E x J=>by rw[eval_Dict_empty ..];exact P.bind<|P.standAt<|P.of<|sH (.mk' rfl x.new.2 (.refl ι) (x.new (o:={cls:=.type "dict",data:=.dict #[]})).1<|.aA (es:=#[]) (Fz.m6 ..) (cv rfl rfl rfl) rfl .nil x.xX)<|nP _
end
noncomputable abbrev PT:=Sem ar×Sem ar
noncomputable abbrev G2:=Option aH×List PT
theorem OT(f:(Option (Sem ar)×Sem ar)->G2->Sem (ForInStep G2))(k:List PT->Sem G2)(rest:List (Option (Sem ar)×Sem ar))
  (hf:∀(p:PT)(run),run.length+1<17->f (aa p.1,p.2) (ag,run)=pure (.yield (ag,run++[p])))
  (hl:∀(p)(run),run.length+1=17->(f (aa p.1,p.2) (ag,run)>>=λst=>match st with|.done b=>pure b|.yield b=>forIn rest b f)=k (run++[p])):
  ∀(items run),items≠[]->run.length+items.length=17->forIn (items.map (λp=>(aa p.1,p.2))++rest) ((ag:Option aH),run) f=k (run++items)
 |[],_,h,_=>aT rfl h|[p],run,_,h=>by rw[iN,List.map_nil,List.singleton_append,wI ..];have:=hl p run (by simpa using h);rw[<-this];congr 1;funext st;induction st using ForInStep.casesOn<;>rfl
 |p::q::r,run,_,h=>by rw[iN,zb,wI ..,hf p run (by simp at h;lia),pure_bind ..];have:=OT f k rest hf hl (q::r) (run++[p]) (by simp) (by simp at h⊢;lia);rw[iO] at this;exact this
theorem OU(d:aH)(f:(Option (Sem ar)×Sem ar)->G2->Sem (ForInStep G2))
  (hf:∀(p)(run),run.length+1<17->f (aa p.1,p.2) (aa d,run)=pure (.yield (aa d,run++[p]))):
  ∀(items run),run.length+items.length<17->forIn (items.map λp=>(aa p.1,p.2)) (aa d,run) f=pure (aa d,run++items)
 |[],run,_=>by simp|p::rest,run,h=>by rw[iN,wI ..,hf p run (by simp at h;lia),pure_bind ..];have:=OU d f hf rest (run++[p]) (by simp at h⊢;lia);simpa using this
theorem YB(a b:List PT)(ha:a.length=17)(hb:b≠[])(c:b.length<17):
  dictDisplay ((a++b).map λp=>(aa p.1,p.2))=(do
   let d<-subDict a;let sub<-holding [.ref d] (subDict b)
   (holding [.ref d,.ref sub] (mergeMapping d (.ref sub) aq)).onRaise λx=>do let _<-holding [.ref d,x] (runValue<|.builtin "proto.let_go" {})
   pure (.ref d)):=by
 unfold dictDisplay;dsimp only;rw[jo,OT _ (λrun=>do let d<-subDict run;pure (aa d,b)) _ (λp run h=>by
  have B:((run++[(p.1,p.2)]).length==17)=aq:=by simp;lia
  simp only[B,yW,if_false]) (λp run h=>by
  have B:((run++[(p.1,p.2)]).length==17)=ae:=by simp;lia
  have E:(run++[(p.1,p.2)]).isEmpty=aq:=by simp
  simp only[B,E,yW,if_false,if_true,bind_assoc,pure_bind];congr 1;funext d;rw[OU d _ (λp run h=>by
   have B:((run++[(p.1,p.2)]).length==17)=aq:=by simp;lia
   simp only[B,yW,if_false]) b [] (by simpa using c)]
  rfl) a [] (by intro h;rw[h] at ha;exact aT ha (by decide)) (by simpa using ha)]
 have E:b.isEmpty=aq:=by induction b using dz with|nil=>exact aT rfl hb|cons=>rfl
 simp only[E,yW,if_false,bind_assoc,pure_bind,G1]
section
variable{prog:fO}{w:eh}{A:bL}{E:Ar}{s:az}{K:Type}[DecidableEq K]{knd:KeyKind prog w K}
theorem abQ(f:knd.is k key=ae)(ho:s.heap.get? d=aa o)(hc:o.ExactDict)(hd:o.data=.dict es ep)(hk:KeysOf knd es)(hz:es.size<=sizeLine)
  (hQ:∀h' a b c,h'.get? d=aa a->a.ExactDict->a.data=.dict b c->c+es.size=ep+b.size->b.toList=putK (λe=>knd.is k e.key) (knd.hash k) key v es.toList->dp d s.heap h'->Q () {s with heap:=h'}):
  wpAny (model prog w) A (dictPut d (knd.hash k) key v) Q E s:=by
 have B:=HT (λe=>knd.is k e.key) (knd.hash k) key v es.toList;refine aI<|wpAny_dictFind_of f ho hd hk ?_;rw[show(es.findIdx? λe=>knd.is k e.key)=es.toList.findIdx? λe=>knd.is k e.key by induction es using Array.casesOn;simp];induction J:es.toList.findIdx? λe=>knd.is k e.key using aO with
 |some i=>
  rw[J] at B;refine wpAny_updateDict ho hd (hQ _ _ _ ep (pK _ ho<|M0<|M1 hd _)
   (hc.mapDict _) (M1 hd _) (by simp) ?_ (pM ..).extBut)
  rw[<-B,aoJ]
 |none=>
  rw[J] at B;refine aoK (hz:=hz) (hf:=dn<|Xk ..) ho hd (hQ _ _ _ (ep+1) (pK _ ho<|M0<|M2 hd _)
   (hc.mapDictKeys _) (M2 hd _) (by simp;lia) ?_ (pM ..).extBut)
  rw[<-B,M3]
theorem ady(b:s.TypeIs (.ref a) "dict")(h:Q ae s):wpAny (model prog w) A (isInstance (.ref a)<|.type "dict") Q E s:=
 Cy b (by rw[uC ..];kernel_rfl) h
theorem abR:typeLookup (.type "dict") "__iter__"=pure (aa<|.builtin "dict.__iter__"):=by rw[jq ..,jr];kernel_rfl
end
theorem N9(l r):∀a,eG a (l++r)=eG (eG a l) r:=by induction l with|nil=>exact λZ=>rfl|cons p l B=>exact λa=>B<|putD p.1 p.2 a
theorem RE(x)(v)(l):putD x v l≠[]:=by
 induction l using dz with|nil=>exact Xn _ _|cons p r=>
  refine(?_:(if x=p.1 then _ else _:List _)≠[]);by_cases c:x=p.1
  ·rw[aC c];exact Xn _ _
  ·rw[aB c];exact Xn _ _
theorem abS:∀{a},a≠[]->eG a l≠[]:=by induction l with|nil=>exact id|cons p l B=>exact λZ=>B<|RE p.1 p.2 _
section
variable{C:Cx}{K:FC}{F F':Fz}{ι av:lk}{m m':J}{env:Env}{s s':az}{A:bL}{E:Ar}
theorem cn.nth(h:cn C F ι es l):∀{i:Nat}{e:fP},es[i]?=aa e->∃x t d,e.key=.str x t/\e.hash=hashStr C.w x/\l[i]?=aa (aF x,d)/\Rl C F ι e.val d:=
 h.ind (P:=λes l=>∀{i:Nat}{e:fP},es[i]?=aa e->∃x t d,e.key=.str x t/\e.hash=hashStr C.w x/\l[i]?=aa (aF x,d)/\Rl C F ι e.val d) (λh=>bk h) λe x t d es B m s h Z A {i}=>match i with|0=>λq=>rws (bf q) (ee x t d m s rfl h)|_+1=>A
theorem OV(l):∀a,(eG a l).length<=a.length+l.length:=by induction l with|nil=>exact λZ=>dR _|cons p l m=>exact λa=>au (m _) (au (sU (Ir p.1 p.2 a) _) (dn ((lS ..).trans (aw (a.length+·)<|jY ..))))
theorem Z6{l l2:Lb}(h:l2[i]?=aa (x,d)):eG l (l2.take<|i+1)=putD x d (eG l<|l2.take i):=by rw[pO,h,zc ..,N9 ..];rfl
theorem aaI{D a:aH}(q2:b.data=.dict c v)(q3:cn C F ι c.toList l2)(h:a≠D)(hn:l.length+l2.length<=1000)
  {f:Nat->PUnit->Sem (ForInStep PUnit)}
  (hf:∀(i:Nat)(s:az)(e:fP)(Q),s.heap.get? a=aa b->c[i]?=aa e->wpAny C.md A (dictPut D e.hash e.key e.val) (λZ s'=>s'.heap.get? a=aa b/\Q (.yield qZ) s') E s->wpAny C.md A (f i qZ) Q E s)
  (hQ:∀s' g,FS C (K.put D g) F ι m env s'->di C F ι g (.aA<|eG l l2)->Q qZ s')(k:Nat):
  ∀(i)(s)(ob),i+k=c.size->FS C (K.put D ob) F ι m env s->di C F ι ob (.aA<|eG l<|l2.take i)->s.heap.get? a=aa b->
   wpAny C.md A (forIn (List.range' i k) qZ f) Q E s:=by
 induction k with
 |zero=>
  intro i s ob B x J M;rw[sQ (q3.size▸dn B.symm)] at J;exact bE<|hQ s ob x J
 |succ k V=>
  intro i s ob B x J M;have P:=MX<|rws B<|G3<|qY k;rw[List.range'_succ,wI ..];refine jQ (q3.nth (i:=i) (by rw[yX];exact P)) λy t d Y j n g4=>?_;refine cA J.inv λz o p2 O=>aI<|hf i s _ _ M P ?_;rw[j,Y];refine abQ (knd:=strKind C.prog C.w) (k:=y) (sP _ _ y t) x.done.2.1 o p2 O.keysOf (iR (rwl O.size (au (OV _ _) (au (kZ (MJ _ _) _) (au hn (by decide)))))) λG p H I q r R f6 u S=>?_;rw[M4<|f6.trans<|jY _ _] at R;have T:=S _ _ h M;exact⟨T,V (i+1) _ p ((lS ..).trans ((aw (i+·)<|jY ..).trans B)) (x.grown (t:=s.toks) S q) (Z6 n▸.aA r R (rwl u<|cn.put g4 O)) T⟩
theorem adz(x:FS C (K.put D ob) F ι m env s)(ho:di C F ι ob (.aA l))(h2:s.heap.get? a=aa c)(b:di C F ι c (.aA l2))(f:a≠D)(g:(a==sysModules)=aq)(hl:l≠[])(hn:l.length+l2.length<=1000)
  (hQ:∀s' d,FS C (K.put D d) F ι m env s'->di C F ι d (.aA<|eG l l2)->Q () s'):wpAny C.md A (mergeMapping D (.ref a) aq) Q E s:=by
 have P:=x.done.2.1;refine cA b.inv λR S B T=>cA ho.inv λV j p2 Y=>?_;have O:s.TypeIs (.ref a) "dict":=i12 c h2 S.1;have M:¬V.isEmpty=ae:=λq=>hl<|sR<|rws Y.size<|aw Array.size<|Array.isEmpty_iff.1 q;refine aI<|ady O ?_;rw[aC rfl];refine aI<|jt O abR<|aI<|bE ?_;refine(?_:wpAny _ _ (if (a==sysModules)=ae then _ else _) _ _ _);rw[aB (by rw[g];exact dq)];refine aI<|Xo P p2 ?_;rw[aB M];refine aI<|Xo h2 B<|aI<|wpAny_dictEpoch h2 B ?_;rw[List.range_eq_range'];refine aI (fh (aaI (Q:=λZ=>Q ()) B T f hn (λi s e Q h2 h J=>aI<|Xo h2 B ?_) hQ R.size 0 s ob (fQ _) x ho h2) (λZ Z y=>bE y) λZ Z y=>y);rw[h];refine aI (jn (fh J (λZ s' J=>aI<|wpAny_dictEpoch J.1 B ?_) λZ Z y=>y));rw[aB (by simp)];exact bE J.2
end
section
variable{X:Fx}
inductive mE(X:Fx):List (Option bj)->List bj->List (Str×E)->Prop where|nil:mE X [] [] []|cons{y:Str}{kk:Nat}{p:Pos}{v:bj}{b:E}{ks:List (Option bj)}{vs:List bj}{ds:List (Str×E)}(h:SE X v b)(r:mE X ks vs ds):mE X (aa (.Constant (.str y) kk p)::ks) (v::vs) ((y,b)::ds)
abbrev jA(ds:List (Str×E)):List (E×E):=ds.map λp=>(.bU<|.str<|aF p.1,p.2)
theorem PG{α β γ:Type}(x:R α)(g:α->J->R β)(f:β->J->R γ):R.bind (R.bind x g) f=R.bind x λa m=>R.bind (g a m) f:=by induction x using R.casesOn<;>rfl
theorem Iu{α:Type}(f:List (V×V)->J->R α):R.bind (gF X.ok X.κ env m<|jA ((y,b)::ds)) f=R.bind (bI X.ok X.κ env m b) λu m=>R.bind (gF X.ok X.κ env m<|jA ds) λvs m=>f ((V.str<|aF y,u)::vs) m:=
 (PG (bI X.ok X.κ env m b) (λu m=>R.bind (gF X.ok X.κ env m<|jA ds) λvs m=>R.ok ((V.str<|aF y,u)::vs) m) f).trans (aw (R.bind _) (funext λu=>funext λm=>PG _ _ _))
noncomputable def Keyed(ds:List (Str×E))(ps:List (V×V))(l:Lb):Prop:=j5 ps=aa l/\l.map (·.1)=ds.map λp=>aF p.1
theorem Keyed.cons(h:Keyed ds ps l)(y:Str)(b)(u):Keyed ((y,b)::ds) ((.str<|aF y,u)::ps) ((aF y,u)::l):=
 ⟨aw (λo:Option (List<|Nm×V)=>o.map ((aF y,u)::·)) h.1,aw (aF y::·) h.2⟩
theorem Keyed.len(h:Keyed ds ps l):l.length=ds.length:=by have:=aw pJ h.2;rwa [bJ,bJ] at this
theorem adA:∀{m:J}{ps}{m'},gF X.ok X.κ env m (jA ds)=.ok ps m'->ps.length=ds.length/\∃l,Keyed ds ps l:=by induction ds with|nil=>intro m ps m' e;exact(R.ok.inj (show R.ok [] m=_ from e)).1▸⟨rfl,[],rfl,rfl⟩|cons p ds B=>intro m ps m' e;refine gl λT E=>?_;refine R.uN (f:=λu m=>R.bind (gF X.ok X.κ env m<|jA ds) λM m=>R.ok ((V.str<|aF p.1,u)::M) m) e λu m1 Z e=>?_;refine R.uN e λY a O e=>?_;obtain⟨P,l,S⟩:=B O;refine E ?_;exact rws (R.ok.inj e).1 ⟨aw sJ P,_,S.cons p.1 p.2 u⟩
noncomputable def S7(X:Fx)(K:FC)(D:aH)(F:Fz)(ι:lk)(env:Env)(acc:Lb)(ds:List (Str×E))(f:List (V×V)->J->R V)(r:R V)(Q:az->Prop):Prop:=
 ∀O l m B M s P,f O m=r->Keyed ds O l->Le F B->Pre ι M->FS X.C (K.put D P) B M m env s->di X.C B M P (.aA<|eG acc l)->Q s
theorem aaJ{K:FC}(O:X.Of K)(j:cI X.lv A K.all){c:Ar}(hb:r≠.H)
  (hf:∀k v,g (k,v) qZ=(do let a<-k;let i<-holding [a] v;holding [a,i] (dictSet D a i);pure (wH qZ)))
  {ks:List (Option bj)}{vs:List bj}{ds:List (Str×E)}(h:mE X ks vs ds):∀{F:Fz}{ι:lk}{m}{s}{ob}{acc}{f},FS X.C (K.put D ob) F ι m env s->di X.C F ι ob (.aA acc)->
   R.bind (gF X.ok X.κ env m<|jA ds) f=r->eL X.C K F ι env r c->acc.length+ds.length<=1000->S7 X K D F ι env acc ds f r Q->
   aD X.C.md A (forIn (pairTrees ks vs K.p pos) qZ g) (λZ s=>Q s) c s:=by
 induction h with|nil=>exact λx J B M S k=>P.pure (k [] [] _ _ _ _ _ B ⟨rfl,rfl⟩ (.refl _) (.refl _) x J)|@cons y Y p v b ks vs ds h _ n=>intro F ι m s ob acc f x J B M S k;show aD _ _ (forIn ((eval (.Constant (.str y) Y p) K.p,do let x<-eval v K.p;lQ pos;pure x)::pairTrees ks vs K.p pos) qZ g) _ _ _;rw[wI ..,hf ..];rw[Iu] at B;exact P.bind (P.bind (P.of (WY (P.bind (P.holding (P.bind (h.cC (K:=K.put D ob) (O.put _ _) j (x.tok<|s.toks+1) B hb M.drop λu d m F ι s B T V x q=>P.bind (P.standAt (P.pure (cA (J.mono T V).inv λes t w z=>P.bz (jn (set_str x.done.2.1 t w z q (au (cZ _ _) (au S (by decide))) λh' o' tk G I L=>P.pure (n (x.grown L G) I B (M.up T V) (au (sU (Ir _ _ _) _)<|rws (sF ..) S) λps l m N U s ob e W k1 k2 x o=>k _ _ m N U s ob e (W.cons y b d) (T.trans k1) (V.trans k2) x o)))))))))))))
theorem mE.UO(h:mE X ks vs ds):ks.all (·.isSome)=ae/\ks.length=vs.length/\ks.length=ds.length:=by induction h with|nil=>exact cv rfl rfl rfl|cons _ _ B=>exact cv B.1 (aw sJ B.2.1) (aw sJ B.2.2)
theorem mE.F7(h:mE X ks vs ds):uk X ks vs (jA ds):=by induction h with|nil=>exact RD|cons h r B=>exact Qv SM h B
theorem Qx{K:FC}(O:X.Of K)(a:cI X.lv A K.all){vs:List bj}{ds:List (Str×E)}(h:mE X ks vs ds)(hn:ds.length<=100){F:Fz}{ι:lk}{m:J}{s:az}(x:FS X.C K F ι m env s)
  {b:Ar}{r:R V}{f:List (V×V)->J->R V}(hr:R.bind (gF X.ok X.κ env m<|jA ds) f=r)(hb:r≠.H)(hE:eL X.C K F ι env r b){Q:aH->az->Prop}(k:S7 X K s.heap.objs.size F ι env [] ds f r (Q s.heap.objs.size)):
  aD X.C.md A (subDict<|pairTrees ks vs K.p pos) Q b s:=by
 have S:di X.C F ι {cls:=.type "dict",data:=.dict #[]} (.aA []):=.aA (es:=#[]) (cv rfl rfl rfl) rfl .nil;refine P.bz<|Xm<|P.bind<|P.holding ?_;by_cases c:(pairTrees ks vs K.p pos).length<=15
 ·rw[aC c];exact P.bind (cC (K:=K.put s.heap.objs.size {cls:=.type "dict",data:=.dict #[]}) (rel:=λF ι v d=>vU X.C F ι v d/\d.length=ds.length/\∃l,Keyed ds d l) (λhb=>P.mono (h.F7 (K.put s.heap.objs.size {cls:=.type "dict",data:=.dict #[]}) F ι m env _ A pos (O.put _ _) a x.make hb) (λZ Z y=>y.casesOn λd m F ι e T Y x y=>⟨d,m,F,ι,e,T,Y,x,y,adA e⟩) λZ Z y=>y) hr hb hE.drop λw g m F ι s hr i j x B=>B.2.2.elim λl M=>P.holding (P.bz (OB B.1 M.1 x (.aA (es:=#[]) (cv rfl rfl rfl) rfl .nil) (by rw[B.2.1];exact au (dn<|fQ _) (au hn (by decide))) λn o q t=>P.pure<|P.pure<|k g l m F ι n o hr M i j q t)))
 ·rw[aB c];exact P.bz (pN (P.bind (P.mono (aaJ O a hb (λZ Z=>rfl) h x.make S hr hE (au (dn<|fQ _) (au hn (by decide))) k) (λZ z u=>P.pure<|P.pure u) λZ Z y=>y)))
theorem Z7{α:Type}:∀{m:J}(f:List (V×V)->J->R α),R.bind (gF X.ok X.κ env m<|jA<|a++b) f=R.bind (gF X.ok X.κ env m<|jA a) λps m=>R.bind (gF X.ok X.κ env m<|jA b) λc m=>f (ps++c) m:=by induction a with|nil=>exact λZ=>rfl|cons p a B=>exact λf=>(Iu f).trans ((aw (R.bind _) (funext λu=>funext λm=>B _)).trans (Iu (y:=p.1) (b:=p.2) (ds:=a) λps m=>R.bind (gF X.ok X.κ env m<|jA b) λc m=>f (ps++c) m).symm)
theorem YK(g:j5 b=aa r):∀{l},j5 a=aa l->j5 (a++b)=aa (l++r):=by induction a with|nil=>exact λh=>rws (bf h) g|cons p a ih=>intro l h;refine cP (Qw (d:=p.1) (j:=p.2) h) λy M B J E=>?_;obtain⟨d,j⟩:=p;dsimp only at B E;subst B E;exact aw (λo:Option (List<|Nm×V)=>o.map ((y,j)::·))<|ih J
theorem Zx(h:mE X ks vs ds):pairTrees (ks++a) (vs++b) env pos=pairTrees ks vs env pos++pairTrees a b env pos:=by induction h with|nil=>rfl|@cons y B p v _ ks vs _ _ _ E=>exact aw ((eval (.Constant (.str y) B p) env,(do let x<-eval v env;lQ pos;pure x))::·) E
theorem adB(h:x∉a.map (·.1)):putD x v a=a++[(x,v)]:=by induction a with|nil=>rfl|cons p a ih=>rw[iN,sS,not_or] at h;exact(aB h.1).trans (aw (p::·)<|ih h.2)
theorem aaK:∀{a:Lb},(a.map (·.1)++r.map (·.1)).Nodup->eG a r=a++r:=by induction r with|nil=>exact λZ=>(gC _).symm|cons p r B=>intro a h;refine(?_:eG (putD p.1 p.2 a) r=_);rw[adB λE=>(List.nodup_append.mp h).2.2 p.1 E p.1 dE rfl,B (by rw[jo,iO ..];exact h),iO ..];rfl
theorem agq(h:mE X ks vs ds)(h':mE X a b i)(j:ks.length=17)(U:a≠[])(bC:a.length<17)(W:(i.map λp=>aF p.1).Nodup):SE X (.Dict (ks++a) (vs++b) pos) (.aA<|jA<|ds++i):=.intro λ{K F ι m Z s A r Q E} O k x B n hQ o=>by
 refine fW h.UO λq t a3=>fW h'.UO λu b2 b3=>?_;have VT:=Xl a b K.p pos u b2;have S:=a3.symm.trans j;have v:=b3▸bC;rw[arm_eval_Dict ..,zip_pairTrees (ks++a) (vs++b) K.p pos (by rw[List.all_append,q,u];rfl) (by rw[d6,d6,t,b2]),Zx h,YB _ _ (by rw[Xl ks vs K.p pos q t];exact j) (λe=>U<|List.length_eq_zero_iff.mp<|VT.symm.trans<|aw pJ e) (by rw[VT];exact bC)];have w:=x.xX;refine P.bind (P.standAt (P.bind (Qx O k h (by rw[S];decide) x ((Z7 λps m=>Fu (λl=>R.ok (.aA<|eG [] l) m)<|j5 ps).symm.trans B) n o λps l m F1 ji s1 y B T z C Y o1=>?_)));generalize s.heap.objs.size=D at Y w;have G:=Y.xX;refine P.bind (P.holding (Qx (K:=K.put D y) (O.put _ _) k h' (au (eg v) (by decide)) Y B n (o.up z C).drop λc d m F2 fL s2 pd B f H I L N=>?_));generalize s1.heap.objs.size=D2 at L G;refine fW L.done λy2 gd M=>?_;have qJ:eG [] d=d:=aaK (by rw[List.map_nil,G1 ..,f.2];exact W);rw[qJ] at N;have g:eG [] l≠[]:=by have:=T.len.trans S;induction l using dz with|nil=>exact aT this (by decide)|cons p l=>exact abS (l:=l) (RE p.1 p.2 [])
 refine P.bind (P.onRaise (P.holding (P.of (adz y2 (o1.mono H I) gd N (λe=>M.ne D y dE e.symm) G g (au (mX (OV l [])<|eg<|rwl f.len v) (by rw[T.len,S];decide)) λs3 ob3 x3 o3=>P.pure ?_))));refine cA o3.inv λes q1 q2 q3=>aW x3.frozen λx4 J=>?_;have B:Fu (λl=>R.ok (.aA<|eG [] l) m) (j5<|ps++c)=r:=B;rw[YK f.1 T.1] at B;exact hQ.at' ((show R.ok (V.aA<|eG (eG [] l) d) m=_ by rw[<-N9 ..];rfl).trans B) ((z.trans H).trans J) (C.trans I) x4<|.aA (Fz.m6 ..) q1 q2 (q3.mono J<|.refl fL) w
end
section
namespace BF
theorem PH:uB "bytearray" "__iter__" "bytearray.__iter__":=
 .of (owner:="bytearray") (n:="__iter__") (by rw[jq ..,jr];kernel_rfl) (by decide+kernel) (by decide+kernel) (by decide+kernel)
  (by first|exact .inl (by decide+kernel)|exact .inr (by decide+kernel)) (by rw[uC ..];kernel_rfl)
theorem aaL:entryFor table "bytearray.__iter__"=aa Builtin.«bytearray.__iter__»:=Cq (by kernel_rfl)
theorem abT(a):argsOk "bytearray.__iter__" ⟨[a],[]⟩:=by unfold argsOk;rw[GV (id:="bytearray.__iter__") (n:=['_','_','r','e','t','i','_','_']) (o:=['y','a','r','r','a','e','t','y','b']) (by kernel_rfl) zZ];kernel_rfl
theorem slot_next:uB "bytearray_iterator" "__next__" "bytearray_iterator.__next__":=
 .of (owner:="bytearray_iterator") (n:="__next__") (by rw[jq ..,jr];kernel_rfl) (by decide+kernel) (by decide+kernel) (by decide+kernel)
  (by first|exact .inl (by decide+kernel)|exact .inr (by decide+kernel)) (by rw[uC ..];kernel_rfl)
theorem entry_next:entryFor table "bytearray_iterator.__next__"=aa Builtin.«bytearray_iterator.__next__»:=Cq (by kernel_rfl)
theorem args_next(a):argsOk "bytearray_iterator.__next__" ⟨[a],[]⟩:=by unfold argsOk;kernel_rfl
end BF
noncomputable def zM(h:eM)(b a:aH)(i:Nat):Prop:=∃o,h.get? b=aa o/\o.cls=.type "bytearray_iterator"/\o.data=.fields #[.ref a,.int i 0]
theorem zM.typeIs{s:az}(y:zM s.heap b a i):s.TypeIs (.ref b) "bytearray_iterator":=let⟨o,B,E,_⟩:=y;(i12 o B E)
section
variable{prog:fO}{w:eh}{A:bL}{E:Ar}{s:az}{a it:aH}{b:Array UInt8}{i:Nat}
theorem aaM(hb:lz s.heap a b)(hQ:Q (.ref s.heap.objs.size) {s with heap:=s.heap.push {cls:=.type "bytearray_iterator",data:=.fields #[.ref a,.int 0 0]}}):wpAny (model prog w) A (pyIter<|.ref a) Q E s:=by refine wpAny_pyIter_slot hb.typeIs BF.PH (wG BF.PH hb.typeIs BF.aaL ?_<|BF.abT _);refine(?_:wpAny _ _ (do ret (<-newFields "bytearray_iterator" [.ref a,rawInt 0])) _ _ s);exact aI<|sH<|bE ⟨_,rfl,"bytearray_iterator",_,i12 _ (mT _ rfl) rfl,BF.slot_next.lookup,hQ⟩
theorem adC{c:UInt8}(hit:zM s.heap it a i)(hb:lz s.heap a b)(hx:b[i]?=aa c)
  (hQ:∀h',zM h' it a (i+1)->zd it s.heap h'->Q (aa<|.int (c.toNat:Int) s.toks) {s with heap:=h',toks:=s.toks+1}):wpAny (model prog w) A (pyNext<|.ref it) Q E s:=by
 refine cA (id hit) λo J M B=>cA hb λR O Z P=>?_;refine aI (Xp (M5 (name:=aoM "__next__") hit.typeIs BF.slot_next
  (wG BF.slot_next hit.typeIs BF.entry_next ?_<|BF.args_next _)))
 refine(?_:wpAny _ _ (field (.ref it) 0>>=_) _ _ s);refine aI<|jX J B (x:=.ref a) rfl<|aI<|sM O ?_;rw[P];refine aI<|jX J B (x:=.int i 0) rfl ?_;simp only[G4,hx];refine aI (CC J B (by simp)<|aI<|W2<|bE<|i12 _ rfl<|bE<|hQ _ ?_<|pM ..);exact⟨_,pK _ J<|Xq<|ze B _,(aoN ..).trans M,by rw[ze B ..];simp[rawInt]⟩
end
end
section
variable{prog:fO}{w:eh}{A:bL}{E:Ar}{s:az}{a it:aH}{b:Array UInt8}{i:Nat}
theorem Zy(hh:A.handled=ag)(hit:zM s.heap it a i)(hb:lz s.heap a b)(hx:b[i]?=ag)
  (hQ:∀h',dp it s.heap h'->Q ag {s with heap:=h'}):wpAny (model prog w) A (pyNext<|.ref it) Q E s:=by
 refine cA (id hit) λo B P J=>cA hb λR M Z O=>?_;refine aI (Xp (M5 (name:=aoM "__next__") hit.typeIs BF.slot_next
  (wG BF.slot_next hit.typeIs BF.entry_next ?_<|BF.args_next _)))
 refine(?_:wpAny _ _ (field (.ref it) 0>>=_) _ _ s);refine aI<|jX B J (x:=.ref a) rfl<|aI<|sM M ?_;rw[O];refine aI<|jX B J (x:=.int i 0) rfl ?_;simp only[G4,hx];refine aI (pN (aI (CC B J (by simp)<|aI<|wpAny_letGo<|aI ?_)));simp only[newExc,newTuple];refine aI (sH ?_ (by size_fits));refine aI (m:=firstArgMember _ _) (cV (a:=uD) (by first|rfl|(simp only[firstArgMember];rfl)) ?_);refine sH ?_ (by size_fits);refine aI<|wpAny_handled ?_;rw[show A.in1.handled=ag from hh];refine aI<|bE<|wpAny_throw ?_;refine aI<|Cy (T:="StopIteration") (b:=ae) (i12 _ (mT _ rfl) rfl) isSubtype_stop ?_;exact bE<|hQ _<|((pM ..).extBut.push _).push _
end
noncomputable def ku(F:Fz)(v:ar)(d:V)(kd:Bool)(n i:Nat)(o:Obj):Prop:=match d with|.tup _=>o.cls=.type "tuple_iterator"/\o.data=.fields #[v,.int i 0]|.lst _=>o.cls=.type "list_iterator"/\o.data=.fields #[v,.int i 0]|.bb _=>o.cls=.type "bytes_iterator"/\o.data=.fields #[v,.int i 0]|.bar _=>o.cls=.type "bytearray_iterator"/\o.data=.fields #[v,.int i 0]|.aA _=>∃a B E J,v=.ref a/\F a=aa B/\B.data=.dict E J/\E.size=n/\o.cls=.type "dict_keyiterator"/\o.data=.fields #[v,.int i 0,.int n 0,.int J 0]|.ref _=>(kd=ae->o.cls=.type "list_iterator"/\o.data=.fields #[v,.int i 0])/\(kd=aq->o.cls=.type "dict_keyiterator"/\o.data=.fields #[v,.int i 0,.int n 0,.int n 0])|.dW a _ c=>o={cls:=.type "range_iterator",data:=.fields #[rawInt<|a+c*i,rawInt<|(n:Int)-i,rawInt c]}|_=>False
section
variable{C:Cx}{K:FC}{F F':Fz}{ι av:lk}{m m':J}{env:Env}{s s':az}{A:bL}{E:Ar}
theorem ku.mono(h:ku F v d kd n i o)(hF:Le F F'):ku F' v d kd n i o:=by induction d using V.casesOn with|aA l=>exact ui h λa m s A B C E=>BQ a m s A B (hF _ _ C) E|_=>exact h
theorem Qy{kvs:List (Str×ar)}(h:kvs.map (λp=>aF p.1)=l)(hn:l.Nodup):(kvs.map (·.1)).Nodup:=
 List.Pairwise.of_map aF (λa b h e=>h<|aw aF e) (show((kvs.map (·.1)).map aF).Nodup by rw[iM];exact rwl h hn)
theorem map_len{α β γ:Type}{f:α->γ}{g:β->γ}{a:List α}{b:List β}(h:a.map f=b.map g):a.length=b.length:=by have:=aw pJ h;rwa [bJ,bJ] at this
theorem OW(x:FS C K F ι m env s){v:ar}(r:Rl C F ι v (.aA l))(hn:(l.map (·.1)).Nodup):
  ∃a o es ep kvs,v=.ref a/\(a==sysModules)=aq/\F a=aa o/\o.data=.dict es ep/\es.size=l.length/\s.heap.DictAt (strKind C.prog C.w) a kvs ep/\kvs.map (λp=>aF p.1)=l.map (·.1):=
 iG r.inv λa o es n M B O E A P=>cA A.pairs λkvs R J Z=>⟨a,o,es,n,kvs,M,P,B,E,A.size,yD o es (x.st.fz _ _ B) O E A.keysOf R<|Qy J hn,J⟩
theorem OX(x:FS C K F ι m env s){v:ar}(r:Rl C F ι v (.ref i))(e:m[i]?=aa (.aA l))(hn:(l.map (·.1)).Nodup):
  ∃a kvs,v=.ref a/\(a==sysModules)=aq/\s.heap.DictAt (strKind C.prog C.w) a kvs l.length/\kvs.map (λp=>aF p.1)=l.map (·.1):=
 gx (x.A9 r e) λa o E J M O=>cA O.inv λP R p2 A=>cA A.pairs λkvs S B Z=>jP a kvs E (x.st.ns _<|get_mem J) (yD o P M R (rws A.size p2) A.keysOf S<|Qy B hn) B
theorem OY(x:FS C K F ι m env s)(r:Rl C F ι v (.ref i))(e:m[i]?=aa (.bW l))(hn:(l.map (·.1)).Nodup):
  ∃a kvs,v=.ref a/\(a==sysModules)=aq/\s.heap.DictAt (intKind C.prog C.w) a kvs l.length/\kvs.map (·.1)=l.map (·.1):=
 gx (x.A9 r e) λa o E J M O=>cA O.inv λP R p2 A=>cA A.pairs λkvs S B Z=>jP a kvs E (x.st.ns _<|get_mem J) (yD o P M R (A.size▸p2) A.keysOf S<|rwl B hn) B
theorem Qz(h:c>0):aoO a b c=if a<b then(b-a-1)/c+1 else 0:=by unfold aoO;rw[aC h]
theorem Fv{i:Int}(h:i.natAbs<n):-(n:Int)<=i/\i<=n:=by lia
theorem PJ{a b c:Int}(h:c>0)(ha:a.natAbs<1000000)(hb:b.natAbs<1000000):0<=(if a<b then(b-a-1)/c+1 else 0)/\(if a<b then(b-a-1)/c+1 else 0)<=2000000:=by
 by_cases q:a<b
 ·rw[aC q];have m:=aoP<|Int.sub_pos_of_lt q;exact⟨Int.add_nonneg (Int.ediv_nonneg m<|Xj h)<|dc rfl,W4 (Int.add_le_of_le_sub_right<|Int.ediv_le_self c m)<|Int.sub_le_sub (Fv hb).2 (Fv ha).1⟩
 ·rw[aB q];exact⟨Int.le_refl 0,dc rfl⟩
theorem abU{a b c:Int}(h:c>0/\a.natAbs<1000000/\b.natAbs<1000000/\c<1000):aoQ a b c=ae:=by
 refine mB h λm A s B=>?_;have:=PJ m A s;unfold aoQ;rw[Qz m];generalize(if a<b then(b-a-1)/c+1 else 0)=z at this⊢;have f:∀i:Int,i.natAbs<3000000->Builtin.Range.rangeFitsLong i=ae:=λi C=>Bool.and_eq_true_iff.mpr ⟨decide_eq_true<|W4 (dc rfl) (Fv C).1,decide_eq_true<|aoR (Fv C).2<|dc rfl⟩;have E:=Xr (Xj m) B;rw[f a<|d7 A<|dl rfl,f b<|d7 s<|dl rfl,f c<|d7 E<|dl rfl,f z (Xr this.1 (aoR this.2 (by decide:(2000000:Int)<3000000))),aC m,
  f (b+(c-1)) (bS (Int.natAbs_add_le _ _)<|d7 (Nat.add_lt_add s<|Xr (aoP m)<|MH (Int.sub_lt_self c<|dc rfl) B)<|dl rfl)]
 exact Bool.or_true _
noncomputable def qK(T:String)(v:ar)(i:Nat)(r:Ld)(o:Obj):Prop:=o.cls=.type T/\o.data=.fields (v::.int i 0::r).toArray
section
variable{prog:fO}{w:eh}{Q:Option ar->az->Prop}{I a:aH}{io:Obj}{i:Nat}{v:ar}
theorem adD(hv:v=.ref a)(hh:A.handled=ag)(c:s.heap.get? I=aa io)(b:qK "tuple_iterator" v i [] io)(d:s.heap.IsTuple a vs)
  (f:∀u h' e,vs[i]?=aa u->dp I s.heap h'->h'.get? I=aa e->qK "tuple_iterator" v (i+1) [] e->Q (aa u) {s with heap:=h'})(g:∀h',vs.size<=i->dp I s.heap h'->Q ag {s with heap:=h'}):
  wpAny (model prog w) A (pyNext<|.ref I) Q E s:=by
 subst hv;induction q:vs[i]? using aO with|some u=>exact wpAny_pyNext_tuple_item (cu io c b.1 b.2) d q λh' hit m=>cA hit λB C F J=>f u h' B q m.extBut C ⟨F,J⟩|none=>exact wpAny_pyNext_tuple_end hh (cu io c b.1 b.2) d q λh' m=>g h' (Array.getElem?_eq_none_iff.mp q) m
theorem QA(hv:v=.ref a)(hh:A.handled=ag)(c:s.heap.get? I=aa io)(b:qK "list_iterator" v i [] io)(d:s.heap.IsList a vs)
  (f:∀u h' e,vs[i]?=aa u->dp I s.heap h'->h'.get? I=aa e->qK "list_iterator" v (i+1) [] e->Q (aa u) {s with heap:=h'})(g:∀h',vs.size<=i->dp I s.heap h'->Q ag {s with heap:=h'}):
  wpAny (model prog w) A (pyNext<|.ref I) Q E s:=by
 subst hv;induction q:vs[i]? using aO with|some u=>exact wpAny_pyNext_list_item (cu io c b.1 b.2) d q λh' hit m=>cA hit λB C F J=>f u h' B q m.extBut C ⟨F,J⟩|none=>exact wpAny_pyNext_list_end hh (cu io c b.1 b.2) d q λh' m=>g h' (Array.getElem?_eq_none_iff.mp q) m
theorem Iv{κ:Type}[DecidableEq κ]{knd:KeyKind prog w κ}{kvs:List (κ×ar)}{n ep:Nat}(hv:v=.ref a)(hh:A.handled=ag)(c:s.heap.get? I=aa io)(hn:kvs.length=n)(b:qK "dict_keyiterator" v i [.int n 0,.int ep 0] io)(d:s.heap.DictAt knd a kvs ep)
  (f:∀u h' e,(∃k w,kvs[i]?=aa (k,w)/\knd.is k u=ae)->dp I s.heap h'->h'.get? I=aa e->qK "dict_keyiterator" v (i+1) [.int n 0,.int ep 0] e->Q (aa u) {s with heap:=h'})(g:∀h',kvs.length<=i->dp I s.heap h'->Q ag {s with heap:=h'}):
  wpAny (model prog w) A (pyNext<|.ref I) Q E s:=by
 subst hv hn;induction q:kvs[i]? using aO with|some u=>exact wpAny_pyNext_dict_item (cu io c b.1 b.2) d q λm h' C hit B=>cA hit λF J K M=>f m h' F (iY u.1 u.2 q C) B.extBut J ⟨K,M⟩|none=>exact wpAny_pyNext_dict_end hh (cu io c b.1 b.2) d q λh' B=>g h' (List.getElem?_eq_none_iff.mp q) B
theorem adE(hv:v=.bytes y t)(hh:A.handled=ag)(d:s.heap.get? I=aa io)(b:qK "bytes_iterator" v i [] io)
  (f:∀(c) h' e,y[i]?=aa c->dp I s.heap h'->h'.get? I=aa e->qK "bytes_iterator" v (i+1) [] e->Q (aa<|.int (c.toNat:Int) s.toks) {s with heap:=h',toks:=s.toks+1})(g:∀h',y.size<=i->dp I s.heap h'->Q ag {s with heap:=h'}):
  wpAny (model prog w) A (pyNext<|.ref I) Q E s:=by
 subst hv;induction q:y[i]? using aO with|some u=>exact KBw.next_item (cu io d b.1 b.2) q λh' hit a=>cA hit λm B C F=>f u h' m q a.extBut B ⟨C,F⟩|none=>exact KBw.next_end hh (cu io d b.1 b.2) q λh' a=>g h' (Array.getElem?_eq_none_iff.mp q) a
theorem agr(hv:v=.ref a)(hh:A.handled=ag)(d:s.heap.get? I=aa io)(b:qK "bytearray_iterator" v i [] io)(hb:lz s.heap a y)
  (f:∀(c:UInt8) h' e,y[i]?=aa c->dp I s.heap h'->h'.get? I=aa e->qK "bytearray_iterator" v (i+1) [] e->Q (aa<|.int (c.toNat:Int) s.toks) {s with heap:=h',toks:=s.toks+1})(g:∀h',y.size<=i->dp I s.heap h'->Q ag {s with heap:=h'}):
  wpAny (model prog w) A (pyNext<|.ref I) Q E s:=by
 subst hv;induction q:y[i]? using aO with|some u=>exact adC (cu io d b.1 b.2) hb q λh' hit m=>cA hit λB C F J=>f u h' B q m.extBut C ⟨F,J⟩|none=>exact Zy hh (cu io d b.1 b.2) hb q λh' m=>g h' (Array.getElem?_eq_none_iff.mp q) m
noncomputable abbrev yn(a c:Int)(N i:Nat):Obj:={cls:=.type "range_iterator",data:=.fields #[rawInt<|a+c*i,rawInt<|(N:Int)-i,rawInt c]}
theorem adF(a c:Int)(N i:Nat):({cls:=.type "range_iterator",data:=.fields #[rawInt<|a+c*i+c,rawInt<|(N:Int)-i-1,rawInt c]}:Obj)=yn a c N (i+1):=by unfold yn;rw[Int.natCast_add ..,Int.mul_add ..,Int.natCast_one,Int.mul_one ..,Int.add_assoc ..,<-Int.sub_sub ..]
theorem adG{a c:Int}(hh:A.handled=ag)(b:s.heap.get? I=aa io)(d:io=yn a c N i)
  (e:∀h',i<N->dp I s.heap h'->h'.get? I=aa (yn a c N<|i+1)->Q (aa<|.int (a+c*i) s.toks) {s with heap:=h',toks:=s.toks+1})(f:∀h',N<=i->dp I s.heap h'->Q ag {s with heap:=h'}):
  wpAny (model prog w) A (pyNext<|.ref I) Q E s:=by
 replace b:=(d)▸b;refine bZ (Nat.lt_or_ge i N) (λv=>?_) λB=>?_
 ·exact wpAny_pyNext_range_item b (Int.sub_pos.mpr<|Int.ofNat_lt.mpr v) λh' hit m=>e h' v m.extBut<|rws (adF a c N i) hit
 ·exact wpAny_pyNext_range_end hh b (Int.sub_nonpos_of_le<|Int.ofNat_le.mpr B) λh' m=>f h' B m
end
theorem aU.KA{vs:Array ar}(h:aU C F ι vs.toList l){i:Nat}(q:vs[i]?=aa u):∃dv,l[i]?=aa dv/\Rl C F ι u dv:=by have m:=h.size▸(Array.getElem?_eq_some_iff.mp q).1;refine bo (h.Kt<|cT m) λw h1 s=>?_;exact i12 _ (cT m)<|rws (bf<|h1.symm.trans q) s
theorem RG{kvs:List (Str×ar)}{l:Lb}{i:Nat}{u:ar}(h:kvs.map (λp=>aF p.1)=l.map (·.1))(g:∃k w,kvs[i]?=aa (k,w)/\(strKind C.prog C.w).is k u=ae):∃dv,(l.map λp=>V.str p.1)[i]?=aa dv/\Rl C F ι u dv:=by refine fw g λk w q m=>bu (Value.isStrOf_shape m) λt s=>rwl s<|i12 (.str<|aF k) ?_<|.str k t;rw[show(l.map λp=>V.str p.1)=(l.map (·.1)).map V.str from(iM ..).symm,<-h,gB,gB,q];rfl
theorem ags{kvs:List (Int×ar)}{l:List (Int×V)}{i:Nat}{u:ar}(h:kvs.map (·.1)=l.map (·.1))(g:∃k w,kvs[i]?=aa (k,w)/\(intKind C.prog C.w).is k u=ae):∃dv,(l.map λp=>V.int p.1)[i]?=aa dv/\Rl C F ι u dv:=by refine fw g λk w q m=>bu (aoI m) λt s=>rwl s<|i12 (.int k) ?_<|.int k t;rw[show(l.map λp=>V.int p.1)=(l.map (·.1)).map V.int from(iM ..).symm,<-h,gB,gB,q];rfl
theorem RH{y:Array UInt8}{i:Nat}(q:y[i]?=aa c):∃dv,((cq y).map λ(b:Nat)=>V.int b)[i]?=aa dv/\Rl C F ι (.int (c.toNat:Int) t) dv:=
 (i12 (.int (c.toNat:Nat)) (by rw[gB,cq,gB,yX,q];rfl)<|.int _ _)
theorem PK(y):((cq y).map λ(b:Nat)=>V.int b).length=y.size:=by simp[cq]
theorem OZ(x:FS C K F ι m env s){v:ar}{d:V}{l:mV}(r:Rl C F ι v d)(e:ei m d=aa l){Q:Ar}(hQ:∀io,ku F v d (d9 m d) l.length 0 io->io.isFreed=aq->Q (.ref s.heap.objs.size) {s with heap:=s.heap.push io}):
  wpAny C.md A (pyIter v) Q E s:=by
 induction d using V.casesOn with
 |tup J=>
  refine xi x r rfl λa T B Y j=>?_;subst B;exact wpAny_pyIter_tuple (items:=T) Y<|hQ _ ⟨rfl,rfl⟩ rfl
 |lst J=>
  refine uK x r rfl λa T B Y j=>?_;subst B;exact wpAny_pyIter_list (items:=T) Y<|hQ _ ⟨rfl,rfl⟩ rfl
 |aA J=>
  refine dA e λc M=>?_;obtain⟨a,o,D,G,f,B,P,R,S,h4,H,k⟩:=OW x r c;have g:=M▸(bJ _).trans (map_len k).symm;subst B;exact Xs P H<|hQ _ (qD a o D G rfl R S (rwl g<|h4.trans (map_len k).symm) rfl<|rws g rfl) rfl
 |bb J=>
  refine rE r λy t B Z=>?_;subst B;exact KBw.pyIter_bytes<|hQ _ ⟨rfl,rfl⟩ rfl
 |bar J=>
  refine DC x r rfl λa o b B P R S Z=>?_;subst B;exact aaM (cu o P R S)<|hQ _ ⟨rfl,rfl⟩ rfl
 |dW a b n=>
  refine dA e λc M=>VI r.inv λw t u z B I=>rwl B ?_;have L:=PJ c.1 c.2.1 c.2.2.1;have g:(l.length:Int)=if a<b then(b-a-1)/n+1 else 0:=by rw[<-M,bJ ..,iL,W9 L.1]
  refine wpAny_pyIter_range (x.st.fz _ _ I) (abU c)<|hQ _ ?_ rfl;refine(?_:_=yn a n l.length 0);unfold yn;rw[g,Qz c.1,Int.natCast_zero,Int.mul_zero ..,Int.add_zero ..,Int.sub_zero ..]
 |ref i=>
  change Ei m[i]?=aa l at e;have p:d9 m (.ref i)=AI m[i]?:=rfl;replace hQ:=(p)▸hQ;clear p;generalize h:m[i]?=o at e hQ;induction o using aO with
  |none=>exact bk e
  |some o=>induction o using O.casesOn with
   |bW J=>
    refine dA e λc M=>gx (OY x r h c) λa f B P R S=>?_;subst B;exact Xs P R (hQ _ ⟨λq=>iI q,λZ=>⟨rfl,by rw[<-M,bJ ..,map_len S];rfl⟩⟩ rfl)
   |aA J=>
    refine dA e λc M=>gx (OX x r h c) λa f B P R S=>?_;subst B;exact Xs P R (hQ _ ⟨λq=>iI q,λZ=>⟨rfl,by rw[<-M,bJ ..,map_len S];rfl⟩⟩ rfl)
   |lst J=>
    refine uK x r (show FV i m[i]?=.lst J by rw[h];rfl) λa T B Y j=>?_;subst B;exact wpAny_pyIter_list (items:=T) Y (hQ _ ⟨λZ=>⟨rfl,rfl⟩,λq=>iI q⟩ rfl)
   |bar _=>exact bk e
 |_=>exact bk e
theorem abV(x:FS C K F ι m env s)(hh:A.handled=ag){v:ar}{d:V}{l:mV}{I:aH}{io:Obj}{i:Nat}{kd:Bool}(r:Rl C F ι v d)(e:gj m d kd=aa l)(k:s.heap.get? I=aa io)(h:ku F v d kd l.length i io){Q:Option ar->az->Prop}
  (jD:∀u dv h' L f,l[i]?=aa dv->Rl C F ι u dv->dp I s.heap h'->h'.get? I=aa f->ku F v d kd l.length (i+1) f->Q (aa u) {s with heap:=h',toks:=L})
  (jI:∀h',i=l.length->dp I s.heap h'->Q ag {s with heap:=h'})(N:i<=l.length):
  wpAny C.md A (pyNext<|.ref I) Q E s:=by
 refine lg e λT M=>?_;have P:∀L u h' f,(∃dv,l[i]?=aa dv/\Rl C F ι u dv)->dp I s.heap h'->h'.get? I=aa f->ku F v d kd l.length (i+1) f->Q (aa u) {s with heap:=h',toks:=L}:=λL u h' f g Y k h=>bo g λdv hx ru=>jD u dv h' L f hx ru Y k h;have w:∀h',l.length<=i->dp I s.heap h'->Q ag {s with heap:=h'}:=λh' g=>jI h'<|Xu N g;clear jD jI N e;induction d using V.casesOn with
 |tup p=>
  refine gl λU n=>?_;refine dA M λZ B=>?_;refine xi x r rfl λa vs J W hl=>?_;refine n ?_;replace hl:=(B)▸hl;exact adD J hh k h W (λu h' f q=>P _ u h' f<|hl.KA q) λh' q=>w h'<|rws hl.size q
 |lst p=>
  refine gl λU n=>?_;refine dA M λZ B=>?_;refine uK x r rfl λa vs J W hl=>?_;refine n ?_;replace hl:=(B)▸hl;exact QA J hh k h W (λu h' f q=>P _ u h' f<|hl.KA q) λh' q=>w h'<|rws hl.size q
 |aA p=>
  refine gl λU n=>?_;refine dA M λc B=>?_;obtain⟨a,o,es,ep,H,J,X,D,R,h4,h5,h7⟩:=OW x r c;refine iG h λa' ob oZ sr hv' g1 g2 g3 g4 g5=>?_;refine n ?_;have S:H.length=l.length:=rws B<|(map_len h7).trans (bJ _).symm;cases pH (J.symm.trans hv')
  cases bf (D.symm.trans g1)
  cases R.symm.trans g2
  exact Iv J hh k S ⟨g4,g5⟩ h5 (λu h' f q Y z G=>P _ u h' f (rws B<|RG h7 q) Y z<|qD a o es ep J D R g3 G.1 G.2) λh' q=>w h'<|rws S q
 |bb p=>
  refine rE r λy t J hy=>?_;have B:(cq y).map (λ(b:Nat)=>V.int b)=l:=rwl hy<|bf M;exact adE J hh k h (λc h' f q=>P _ _ h' f<|rws B<|RH q) λh' q=>w h' (B▸rwl (PK y) q)
 |bar p=>
  refine DC x r rfl λa o y J X D R hy=>?_;have B:(cq y).map (λ(b:Nat)=>V.int b)=l:=rws hy<|bf M;exact agr J hh k h (cu o X D R) (λc h' f q=>P _ _ h' f<|rws B<|RH q) λh' q=>w h' (B▸rwl (PK y) q)
 |dW a b c'=>
  refine dA M λc B=>?_;have S:l.length=(if a<b then(b-a-1)/c'+1 else 0).toNat:=by rw[<-B,bJ ..,iL]
  exact adG hh k h (λh' q Y z=>P _ _ h' _ (i12 (.int<|a+c'*(i:Int)) (by rw[<-B,gB,aoS (S▸q)];rfl)<|.int _ _) Y z rfl) λh' q=>w h' q
 |ref j=>
  change Ei m[j]?=aa l at M;change AI m[j]?=kd at T;generalize hm:m[j]?=o at M T;induction o using aO with
  |none=>exact bk M
  |some o=>induction o using O.casesOn with
   |bW p=>
    refine gl λU n=>?_;refine dA M λc B=>?_;refine gx (OY x r hm c) λa H J X D R=>?_;refine n ?_;have S:l.length=p.length:=rws B<|bJ _;have T:kd=aq:=T.symm;rw[T] at h P;exact Iv J hh k ((map_len R).trans S.symm) (h.2 rfl) (rwl S D) (λu h' f q Y z G=>P _ u h' f (rws B<|ags R q) Y z ⟨λq=>iI q,λZ=>G⟩) λh' q=>w h' (S▸rws (map_len R) q)
   |aA p=>
    refine gl λU n=>?_;refine dA M λc B=>?_;refine gx (OX x r hm c) λa H J X D R=>?_;refine n ?_;have S:l.length=p.length:=rws B<|bJ _;have T:kd=aq:=T.symm;rw[T] at h P;exact Iv J hh k ((map_len R).trans S.symm) (h.2 rfl) (rwl S D) (λu h' f q Y z G=>P _ u h' f (rws B<|RG R q) Y z ⟨λq=>iI q,λZ=>G⟩) λh' q=>w h' (S▸rws (map_len R) q)
   |lst p=>
    refine gl λU n=>?_;refine dA M λZ B=>?_;refine uK x r (show FV j m[j]?=.lst p by rw[hm];rfl) λa vs J W hl=>?_;refine n ?_;replace hl:=(B)▸hl;have T:kd=ae:=T.symm;rw[T] at h P;exact QA J hh k (h.1 rfl) W (λu h' f q Y z G=>P _ u h' f (hl.KA q) Y z ⟨λZ=>G,λq=>iI q⟩) λh' q=>w h'<|rws hl.size q
   |bar _=>exact bk M
 |_=>exact bk M
theorem AO(h:(env.set k a)[j]?=aa sl):(j=k/\sl=a)\/(j≠k/\env[j]?=aa sl):=by
 replace h:=(aoT)▸h;by_cases e:k=j
 ·replace h:=(aC e)▸h;by_cases c:k<env.length
  ·exact .inl ⟨e.symm,(bf<|(aC c).symm.trans h).symm⟩
  ·exact bk<|(aB c).symm.trans h
 ·exact .inr ⟨λq=>e q.symm,(aB e).symm.trans h⟩
theorem alo{ns:List Str}(h:ns.Nodup){j k:Nat}(h1:ns[j]?=aa x)(h2:ns[k]?=aa y)(a:j≠k):x≠y:=λe=>(List.getElem?_eq_some_iff.mp h1).elim λm q1=>(List.getElem?_eq_some_iff.mp h2).elim λp2 q2=>(Nat.lt_or_gt_of_ne a).elim (λg=>List.pairwise_iff_getElem.mp h j k m p2 g<|q1.trans<|e.trans q2.symm) λg=>List.pairwise_iff_getElem.mp h k j p2 m g<|q2.trans<|e.symm.trans q1.symm
theorem di.Jm(h:di C F ι o d):o.data≠.cell v:=λe=>by cases h with|lst _ h=>exact nomatch h.symm.trans e|aA _ h=>exact nomatch h.symm.trans e|bW _ h=>exact nomatch h.symm.trans e|bar _ h=>exact nomatch h.symm.trans e
theorem ig.keep(q:ig C bc F ι h v sl)(hk:∀a ob o,sl=.own o->v=aa (.ref a)->h.get? a=aa ob->di C F ι ob o->h'.get? a=aa ob):ig C bc F ι h' v sl:=by cases q with|un=>exact .un|val r=>exact .val r|own P e r=>exact .own P (hk _ _ _ rfl rfl e r) r
theorem Ns.RI{h:eM}(hn:h.Ns L a)(hc:h.IsCell c w):c≠L:=λe=>by exact nE hn λA B C m s Z=>hc.elim λE q=>nomatch q.2.symm.trans<|(aw Obj.data<|bf<|q.1.symm.trans<|rwl e m).trans s
theorem Fm.set{h h':eM}{l f:Str->Option ar}(fm:Fm C K F ι env h l)(r:K.ns.Nodup)(hk:K.ns[k]?=aa y)(ho:∀o,g≠.own o)(hn:h'.Ns K.p.locals f)(d:∀z,z≠y->f z=l z)
  (keep:∀a ob o j z,h.get? a=aa ob->di C F ι ob o->K.ns[j]?=aa z->rR env j->l z=aa (.ref a)->h'.get? a=aa ob)(cells:∀c w z,K.p.cells.lookup z=aa c->z≠y->h.IsCell c w->h'.IsCell c w)(n:∀a o,(a,o)∈K.ex->h.get? a=aa o->h'.get? a=aa o)
  (t:K.p.kindOf y=aa .local ->ig C K.bc F ι h' (f y) g)(u:K.p.kindOf y=aa .cell->∃c v,K.p.cells.lookup y=aa c/\h'.IsCell c v/\ig C K.bc F ι h' v g/\Pv K.bc F ι c)(n3:K.p.kindOf y≠aa .free/\(K.p.kindOf y=aa .cell->K.ro=aq))(D:K.p.kindOf y=aa .local \/K.p.kindOf y=aa .cell):Fm C K F ι (env.set k g) h' f:=by
 have ne:∀{j x},K.ns[j]?=aa x->j≠k->x≠y:=λh1 s=>alo r h1 hk s;have own:∀{j},rR (env.set k g) j->j≠k/\rR env j:=λh=>h.elim λo h=>(AO h).elim (λh=>aT h.2.symm<|ho o) λh=>⟨h.1,o,h.2⟩;refine⟨hn,fm.pv,λj z E h1 m s=>(AO m).elim (λq=>?_) λq=>?_,λP j z E h1 m s=>(AO m).elim (λq=>?_) λq=>?_,λj z E h1 m s=>(AO m).elim (λq=>?_) λq=>fm.qG j z E h1 q.2 s,λj z E h1 m=>(AO m).elim (λq=>?_) λq=>fm.i4 j z E h1 q.2,fm.oX,
  λi j a b c h1 m s J R S=>fm.one i j a b c h1 m (own s).2 (own J).2 (d _ (ne h1 (own s).1)▸R)<|rws (d _<|ne m (own J).1) S,λj z h1 m=>rwl (d _<|ne h1 (own m).1)<|fm.mD j z h1 (own m).2,
  λa o M=>yC (fm.ex a o M) λT V Y g4 G=>vJ T (n a o M V) Y (λj z h1 m=>rwl (d _<|ne h1 (own m).1)<|g4 j z h1 (own m).2) λj z c h1 m=>G j z c h1<|rws q8 m,fm.jf⟩
 ·refine aW q λA B=>?_;subst A B;have e:=bf<|h1.symm.trans hk;subst e;exact t s
 ·exact d z (ne h1 q.1)▸(fm.ba j z E h1 q.2 s).keep λa ob o A B H I=>keep a ob o j z H I h1 ⟨o,rws A q.2⟩ B
 ·refine aW q λA B=>?_;subst A B;have e:=bf<|h1.symm.trans hk;subst e;exact⟨u s,ho⟩
 ·exact aW (fm.ij P j z E h1 q.2 s) λw no=>⟨gx w λc v O L N Q=>jP c v O (cells c v z O (ne h1 q.1) L) (N.keep λa ob o e Z Z Z=>aT e<|no o) Q,no⟩
 ·refine aW q λA B=>?_;subst A B;have e:=bf<|h1.symm.trans hk;subst e;exact s.elim (λh=>aT h n3.1) λh=>nomatch h.2.symm.trans<|n3.2 h.1
 ·refine aW q λA B=>?_;subst A B;have e:=bf<|h1.symm.trans hk;exact rwl e (D.elim .inl λh=>.inr<|.inl h)
theorem Fm.UR(fm:Fm C K F ι env h g)(i:K.ns.Nodup)(hk:K.ns[k]?=aa y)(ho:∀o,f≠.own o)(hn:h'.Ns K.p.locals d)(l:∀z,z≠y->d z=g z)(hs:dp K.p.locals h h')(b:K.p.kindOf y=aa .local)(n:ig C K.bc F ι h' (d y) f):Fm C K F ι (env.set k f) h' d:=
 fm.set i hk ho hn l (λa M o j z s Z A B e=>hs _ _ (λq=>(fm.mD j z A B).2<|rws q e) s) (λc w z Z Z m=>m.elim λE q=>i12 E (hs _ _ (Ns.RI fm.ns m) q.1) q.2) (λa o J e=>hs _ _ (fm.ex a o J).2.2.1 e)
  (λZ=>n) (λh=>nomatch b.symm.trans h) ⟨λh=>(nomatch b.symm.trans h),λh=>nomatch b.symm.trans h⟩ (.inl b)
theorem FS.S8(x:FS C K F ι m env s)(a:K.ns.Nodup)(fm:Fm C K F ι env s.heap b)(hk:K.ns[k]?=aa y)(r:Rl C F ι v d)
  (hn:h'.Ns K.p.locals (λz=>if z=y then aa v else b z))(hs:dp K.p.locals s.heap h')(c:K.p.kindOf y=aa .local):FS C K F ι m (env.set k<|.val d) {s with heap:=h',toks:=t}:=
 ⟨x.st.yk fm.pv hs,⟨_,fm.UR a hk (λo h=>nomatch h) hn (λz A=>aB A) hs c (by rw[aC rfl];exact .val r)⟩,x.wd⟩
theorem FS.ajg(x:FS C K F ι m env s)(l:K.ns.Nodup){k:Nat}(fm:Fm C K F ι env s.heap n)(hk:K.ns[k]?=aa y)(bC:k<env.length)(r:Rl C F ι v d)
  (f:K.ro=aq)(b:K.p.kindOf y=aa .cell)(hc:K.p.cells.lookup y=aa c)(g:s.heap.IsCell c u)(i:Pv K.bc F ι c)(D:h'.IsCell c (aa v))(hs:dp c s.heap h'):FS C K F ι m (env.set k<|.val d) {s with heap:=h',toks:=t}:=by
 have E:=nQ<|Ns.RI fm.ns g;refine⟨x.st.yk i hs,⟨n,fm.set l hk (λo h=>nomatch h) ?_ (λZ Z=>rfl) (λa Y o j z A J Z Z Z=>hs _ _ (λe=>g.elim λB q=>di.Jm J ((aw Obj.data (bf ((e▸A).symm.trans q.1))).trans q.2)) A)
  (λG w z M O h=>h.elim λB q=>i12 B (hs _ _ (λe=>O<|fm.oX z y c (rws e M) hc) q.1) q.2) (λa o P e=>hs _ _ (nQ<|(fm.ex a o P).2.2.2.2 k y c hk bC b hc f) e)
  (λh=>nomatch b.symm.trans h) (λZ=>jP c (aa v) hc D (.val r) i) ⟨λh=>(nomatch b.symm.trans h),λZ=>f⟩ (.inr b)⟩,x.wd⟩
 exact vL fm.ns λR S T V q=>K9 R S T (hs _ _ E V) q
noncomputable def yo(k:Option G5):Bool:=k==aa .local ||k==aa .cell
theorem Aa(x:FS C K F ι m env s)(hm:Mk K)(hk:K.ns[k]?=aa y)(bC:k<env.length)(a:yo (K.p.kindOf y)=ae)(b:K.p.kindOf y=aa .local \/K.ro=aq)(r:Rl C F ι v d)
  (hQ:∀s',FS C K F ι m (env.set k<|.val d) s'->Q () s'):wpAny M A (bindName K.p y v) Q E s:=by
 refine M7 (bu x.fm λh B=>?_);by_cases J:K.p.kindOf y=aa .local
 ·refine M8 J B.ns (λV Y O=>hQ _<|x.S8 hm.nd B hk r Y O.extBut J) ?_;rw[hm.kind];rfl
 ·have P:K.p.kindOf y=aa .cell:=by unfold yo at a;simp only[MU,bO] at a;exact a.resolve_left J
  have R:=b.resolve_left J;refine aW (B.ij R k y _ hk (cT bC) P) λe no=>?_;exact gx e λc w S T i f=>wpAny_storeName_cell hm.kind P S T λV g O=>hQ _<|x.ajg (t:=s.toks) hm.nd B hk bC r R P S T f g O.extBut
theorem FS.swap(x:FS C ((K.put I io).put D o) F ι m env s):FS C ((K.put D o).put I io) F ι m env s:=by
 refine bu x.fm λB f=>⟨x.st,⟨B,f.ns,f.pv,f.ba,f.ij,f.qG,f.i4,f.oX,f.one,f.mD,λa q h=>f.ex a q ?_,?_⟩,x.wd⟩
 ·refine bZ (sS.mp h) (λh=>?_) λh=>?_
  ·exact dT _<|sS.mpr<|.inl h
  ·refine bZ (sS.mp h) (λh=>?_) λh=>?_
   ·exact sS.mpr<|.inl h
   ·exact dT _<|dT _ h
 ·have:=f.jf;refine(?_:((I,io)::(D,o)::K.ex).map (·.1)|>.Nodup);have A:(((D,o)::(I,io)::K.ex).map (·.1)).Nodup:=this;rw[iN,iN,mW,mW,sS,not_or] at A;rw[iN,iN,mW,mW,sS,not_or];exact cv ⟨nQ A.1.1,A.2.1⟩ A.1.2 A.2.2
end
noncomputable def nq(scope sc:d5):d5:={scope with names:=scope.names.map λ(n,k)=>if (k==.free&&sc.kind==.function&&sc.names.lookup n==aa .cell) then(n,.cell) else(n,k)}
def Fx.comp(X:Fx)(scope:d5)(ns:List Str):Fx:={X with ns:=ns,sc:=nq scope X.sc,ro:=ae,top:=aq}
namespace P
section
variable{prog:fO}{w:eh}{A:bL}{E:Ar}{s:az}{env:gA}
theorem comprehension
  (l:clausesOf e=g::gs)(hs:∀x,foldedSetIterable g.iter env x=nN x)(n:closureFor scope env=nN cl)(o:scope.kind=.function)(Jn:∀x∈scope.names,x.2=.local ->scope.names.lookup x.1=aa .local)
  (h:aD (model prog w) A first (λx b=>aD (model prog w) A (pyIter x) (λc d=>aD (model prog w) A i (λacc j=>
   aD (model prog w) A (newFunctionEnv scope env.globals cl [] env.qual ag .none<|aa env) (λcenv k=>
    cM (model prog w) A (.compStart e 0 c acc {cenv with scope:=relabel scope env}) (λr a=>match r with
     |.ok _=>∃m,a.heap.Ns cenv.locals m/\∀h',zd cenv.locals a.heap h'->Q acc {a with heap:=h'}
     |.error _=>False) k) E j) E d) E b) E s):
  aD (model prog w) A (M9 e scope env pos i aq first) Q E s:=by
 unfold M9;rw[n,l];refine bind (mono h (λx b B=>bind (standAt (bz (cV (hs x) (bind (holding (mono B (λc d J=>?_) λZ Z h'=>h'))))))) λZ Z h'=>h');refine(?_:aD _ _ (i>>=_) _ _ _);refine bind (mono J (λacc j M=>bind (pure (bind (mono M (λcenv k O=>?_) λZ Z h'=>h')))) λZ Z h'=>h');dsimp only;have P:∀x∈(scope.names.filter λx=>(x.2==.local ||x.2==.cell)&&x.1 !=(".0":Str)).reverse,x.2=.local ->
   Env.kindOf {cenv with scope:=relabel scope env} x.1=aa .local :=λx R S=>Xv<|Jn x (List.mem_filter.mp<|List.mem_reverse.mp R).1 S
 refine holding (bind (attempt (holding (run (qa O λr a hr=>?_)))));induction r using y8 with
 |ok f=>
  exact bo hr λm T hr=>bz (jn (wpAny_comp_letGo (cenv:={cenv with scope:=relabel scope env}) o _ a m P T λh' Y Z V=>pure<|hr h' V))
 |error x=>exact hr.elim
theorem noRaise{α:Type}{m:Sem α}{Q:α->az->Prop}(h:aD (model prog w) A m Q (λZ Z=>False) s):aD (model prog w) A (m.onRaise k) Q E s:=
 onRaise (mono h (λZ Z y=>y) λZ Z f=>f.elim)
theorem compStart{a target iter:bj}{rest:List Comprehension}{pos:Pos}{b acc:ar}{R:gP->az->Prop}
  (c:cM (model prog w) A (.compLoop (.ListComp a (⟨target,iter,ifs,0⟩::rest) scope pos) 0 b acc env) R s)(Ba:∀(Q),Q b s->wpAny (model prog w) A (pyIter b) Q (λZ Z=>False) s):
  cM (model prog w) A (.compStart (.ListComp a (⟨target,iter,ifs,0⟩::rest) scope pos) 0 b acc env) R s:=by
 refine ll rfl ?_;rw[wJ rfl rfl];refine(?_:aD _ _ ((aoU (.ListComp a (⟨target,iter,ifs,0⟩::rest) scope pos) 0 b acc env).onRaise (λx=>do noteFrame x env;lQ theWindowsPlace)) _ _ s);refine noRaise ?_;unfold aoU;refine(?_:aD _ _ (ask>>=_) _ _ s);refine bz<|Xw ?_;split
 ·exact pure ⟨rfl,c⟩
 ·refine bz<|pN ?_;refine(?_:aD _ _ (lQ iter.pos>>=_) _ _ s);exact bind<|standAt<|bz<|Ba _<|pure ⟨rfl,c⟩
end
end P
section
variable{X:Fx}
inductive uo(X:Fx):List bj->Option E->Prop where|nil:uo X [] ag|one{c:bj}{d:E}(h:SB X c d):uo X [c] (aa d)
section
variable{C:Cx}{K:FC}{F:Fz}{ι:lk}{m m':J}{env:Env}{s:az}{A:bL}{α:Type}
theorem eL.no{E:Ar}:eL C K F ι env (R.ok d m) E:=λZ Z h=>by cases h with|i why m' s A q=>cases q
theorem LQ{Q:Bool->az->Prop}(e:a=b)(h:Q b s):Q a s:=rwl e h
theorem aU.push{vs:Array ar}(h:aU C F ι vs.toList l)(r:Rl C F ι v d):aU C F ι (vs.push v).toList (l++[d]):=rwl M3<|h.append<|.cons r .nil
theorem HU(h:xU m v kd n=aa l):gj m v kd=aa l/\l.length=n:=
 lZ h λE s A=>lg A λB C=>rws (bf C) ⟨s,B⟩
theorem SE.val(h:SE X e d)(O:X.Of K)(c:cI X.lv A K.all)(x:FS X.C K F ι m env s)(g:bI X.ok X.κ env m d=.ok y m')
  (k:∀v a b s,Le F a->Pre ι b->FS X.C K a b m' env s->Rl X.C a b v y->Q v s):aD X.C.md A (eval e K.p) Q i s:=
 h.cC O c x (f:=λv m=>.ok v m) (aw (λr=>R.bind r λv m=>.ok v m) g) (λh=>nomatch h) .no λv d P a b s e B E x r=>aW (R.ok.inj e) λJ M=>k v a b s B E (rws M x)<|rws J r
theorem DD(x:FS C K F ι m env s)(hh:A.handled=ag){kd:Bool}{E:Ar}(r:Rl C F ι v d)(e:xU m d kd n=aa l)(c:s.heap.get? I=aa io)(f:ku F v d kd n i io)
  (g:∀u dv h' h b,l[i]?=aa dv->Rl C F ι u dv->dp I s.heap h'->h'.get? I=aa b->ku F v d kd n (i+1) b->Q (aa u) {s with heap:=h',toks:=h})
  (j:∀h',i=n->dp I s.heap h'->Q ag {s with heap:=h'})(a:i<=n):
  wpAny C.md A (pyNext<|.ref I) Q E s:=by
 refine aW (HU e) λB J=>?_;subst J;exact abV x hh r B c f g j a
end
noncomputable abbrev T4(p:gA)(ifs:List bj):Sem Bool:=forIn ifs ae λc r=>if r=ae then do let B<-isTrue c p (eval c p);pure (wH B) else pure (wH r)
theorem agt{ifs:List bj}{dc:Option E}(h:uo X ifs dc){K:FC}(O:X.Of K)(j:cI X.lv A K.all)(x:FS X.C K F ι m env s)(hc:yF X.ok X.κ env m dc=.ok (.bool b) m')
  {Q:Bool->az->Prop}(hQ:∀a f g,Le F a->Pre ι f->FS X.C K a f m' env g->Q b g):
  aD X.C.md A (T4 K.p ifs) Q (λZ Z=>False) s:=
 match h,hc with
 |.nil,hc=>P.pure (aW (R.ok.inj hc) λB J=>LQ (Ii B)<|hQ F ι s (.refl F) (.refl ι)<|rws J x)
 |.one (d:=d) h,hc=>
  have M:R.bind (fc<|bI X.ok X.κ env m d) (λv m=>.ok v m)=.ok (.bool b) m':=aw (λr=>R.bind (fc r) λv m=>.ok v m) hc
  P.bind (P.bind (h.cC O j x M (λh=>nomatch h) (λZ Z h=>by cases h with|i why m' a f q=>cases q) λc V a f g e S T x=>P.pure (P.pure (aW (R.ok.inj e) λB J=>LQ (Ii B)<|hQ a f g S T<|rws J x))))
noncomputable abbrev lobj(vs:Array ar)(n:Nat):Obj:={cls:=.type "list",data:=.seq vs n}
noncomputable def T5(M:mS)(A:bL)(p:gA)(c:Str)(ifs:List bj)(a:bj)(I D:aH)(W N:az->Prop)(s:az):Prop:=
 wpAny M A (pyNext<|.ref I) (λo s=>o.elim (N s) λu=>aD M A (bindName p c u) (λZ s=>aD M A (T4 p ifs) (λb s=>bif b then aD M A (eval a p) (λy s=>wpAny M A (call (.builtin "list.append") [.ref D,y]) (λZ s=>W s) (λZ Z=>False) s) (λZ Z=>False) s else W s) (λZ Z=>False) s) (λZ Z=>False) s) (λZ Z=>False) s
theorem abW{ifs:List bj}{scope:d5}{pos:Pos}{p:gA}{I D:aH}{R:gP->az->Prop}{s:az}
  (h:T5 (model prog w) A p d ifs c I D (cM (model prog w) A (.compLoop (.ListComp c [⟨.Name d px,iter,ifs,0⟩] scope pos) 0 (.ref I) (.ref D) p) R) (R<|.ok .next) s):
  cM (model prog w) A (.compLoop (.ListComp c [⟨.Name d px,iter,ifs,0⟩] scope pos) 0 (.ref I) (.ref D) p) R s:=by
 refine P.ll rfl ?_;rw[wJ rfl rfl];refine(?_:aD _ _ ((compTurn (.ListComp c [⟨.Name d px,iter,ifs,0⟩] scope pos) 0 (.ref I) (.ref D) p).onRaise (λx=>do noteFrame x p;theTreesLotGoes x)) _ _ s);refine P.noRaise ?_;rw[compTurn_list ..];refine P.bind (P.standAt (P.bind (P.mono (P.of h) (λo s h=>?_) λZ Z h=>h)));induction o using aO with|none=>exact P.pure h|some u=>refine P.bz (cV (a:=()) rfl ?_);rw[Np ..];refine P.bind (P.bind (P.standAt (P.mono h (λZ s h=>P.bind (P.mono h (λb s h=>?_) λZ Z h=>h)) λZ Z h=>h)));induction b using aS with|true=>exact P.bind (P.bind (P.mono h (λy s h=>P.bz (fh h (λZ s h=>P.pure<|P.pure ⟨rfl,h⟩) λZ Z h=>h)) λZ Z h=>h))|false=>exact P.pure ⟨rfl,h⟩
theorem abX{dc:Option E}(he:SE X elt nz)(hc:uo X ifs dc){K0:FC}{A:bL}(O:X.Of K0)(Q:cI X.lv A K0.all){KD:Env}{v:ar}{d:V}{kd:Bool}{nn:Nat}{D I:aH}
  (hx:X.ns[0]?=aa xn)(jj:X.sc.names.lookup xn=aa .local)(hlen:nn<=1000){F0:Fz}{BZ:lk}(hv:Rl X.C F0 BZ v d){W N:az->Prop}(hW:∀s,T5 X.C.md A K0.p xn ifs elt I D W N s->W s):
  ∀(k:Nat)(F:Fz)(ι:lk)(m:J)(s:az)(sl:Sl)(acc:mV)(vs:Array ar)(n:Nat)(io:Obj)(q:R V),k<=nn->Le F0 F->Pre BZ ι->FS X.C ((K0.put I io).put D<|lobj vs n) F ι m (sl::KD) s->ku F v d kd nn (nn-k) io->aU X.C F ι vs.toList acc->acc.length<=nn-k->
   uZ (λe m=>yF X.ok X.κ e m dc) (λe m=>bI X.ok X.κ e m nz) KD d kd nn k acc m=q->q≠.H->
   (∀a f m' g i j r w,q=.ok (.lst i) m'->Le F a->Pre ι f->FS X.C (K0.put D<|lobj j r) a f m' (w::KD) g->aU X.C a f j.toList i->N g)->W s:=by
 have xZ:=(aw (λc:d5=>c.names.lookup xn) O.sc).trans jj;have ang:=aw yo xZ;have vW:=O.ns▸hx;have O2:∀io o,X.Of ((K0.put I io).put D o):=λio o=>(O.put _ _).put _ _;have vD:∀{k:Nat},k+1<=nn->nn-(k+1)+1=nn-k:=λ{k} h=>(Nq h).symm.trans<|aoV nn 1 k;intro k;induction k with
 |zero=>
  intro F ι m s sl acc vs n io q T z G x U L F8 hq B hR;refine hW s (oi hq B λl hl e=>?_);have Y:=x.swap;exact DD x Q.hd (hv.mono z G) hl Y.done.2.1 U (λu dv h' tk M hx Z Z Z Z=>nomatch(Co<|dn (HU hl).2).symm.trans hx) (λh' Z hs=>hR F ι m {s with heap:=h'} acc vs n sl e.symm (.refl F) (.refl ι) (Y.Ky (t:=s.toks) hs) L)<|dR _
 |succ k ih=>
  intro F ι m s sl acc vs n io q T z G x U L F8 hq B hR;refine hW s (oi hq B λl hl e=>oi e B λvi B0 e=>?_);have Y:=x.swap;refine DD x Q.hd (hv.mono z G) hl Y.done.2.1 U (λu dv h' tk M B1 ru hs yJ yq=>P.of (Aa (K:=(K0.put I M).put D<|lobj vs n) (Y.grown (t:=tk) hs yJ).swap (O2 M _).make (k:=0) vW (qY _) ang (.inl xZ) (rws (bf<|B1.symm.trans B0) ru:Rl X.C F ι u vi) λs3 x3=>D6 e B λc m' ec e=>bo (aiB e B) λb eb e=>agt (K:=(K0.put I M).put D<|lobj vs n) hc (O2 M _) Q x3 (ec.trans (aw (R.ok · m') eb)) λF4 LR s4 S l2 x4=>?_)) (λh' he Z=>aT he<|ju<|Nat.sub_lt (cL (qY k) T)<|qY k)<|gR ..;have Fw:=vD T▸yq.mono S;clear U yq x Y x3 hs yJ B1 ru ec eb B0
  match b,e with
  |false,e=>exact ih F4 LR m' s4 _ acc vs n M q (Xx T) (z.trans S) (G.trans l2) x4 Fw (L.mono S l2) (au F8<|Nat.sub_le_sub_left (g0 k) nn) e B λa f m2 g i j r w e g1 g2=>hR a f m2 g i j r w e (S.trans g1)<|l2.trans g2
  |true,e=>
   exact D6 e B λy m2 ey e=>he.val (K:=(K0.put I M).put D<|lobj vs n) (O2 M _) Q x4 ey λyv F5 VW s5 l3 l4 x5 r5=>
    OS x5.done.2.1 (iR<|au (dn L.size)<|au F8<|au (gR ..)<|au hlen<|dl rfl) λh6 n6 g1 g2=>
     ih F5 VW m2 _ _ (acc++[y]) (vs.push yv) n6 M q (Xx T) ((z.trans S).trans l3) ((G.trans l2).trans l4) (x5.grown (t:=s5.toks) g2 g1) (Fw.mono l3) (((L.mono S l2).mono l3 l4).push r5) (au (dn d6)<|rws (vD T)<|gZ F8) e B λa f m3 g i j r w e q1 q2=>hR a f m3 g i j r w e ((S.trans l3).trans q1)<|(l2.trans l4).trans q2
end
theorem adH(names:List (Str×G5)):∀(a),(∀n k,(n,k)∈names->k=.free->∃c,env.cells.lookup n=aa c)->(∀n c,a.lookup n=aa c->env.cells.lookup n=aa c)->
  ∃cl,(forIn names a λ(x:Str×G5) r=>(if (x.2==.free)=ae then do let c<-cellOf env x.1;pure (wH ((x.1,c)::r)) else pure (wH r):Sem (ForInStep<|List<|Str×aH)))=pure cl/\
   (∀n c,cl.lookup n=aa c->env.cells.lookup n=aa c)/\(∀n c,a.lookup n=aa c->cl.lookup n=aa c)/\∀n,(n,sV)∈names->∃c,cl.lookup n=aa c:=by
 induction names with|nil=>exact λa Z M=>vK a (by rw[List.forIn_nil]) M (λZ Z h=>h) (λZ h=>nomatch h)|cons x r d=>
  refine Prod.casesOn x λn k=>?_;intro a P M;rw[wI ..];by_cases R:k=.free
  ·subst R;refine bu (P n .free dE rfl) λc S=>?_;have f:cellOf env n=pure c:=by unfold cellOf;rw[S]
   have g:∀B E,((n,c)::a).lookup B=aa E->env.cells.lookup B=aa E:=λB E e=>by rw[pP] at e;induction q:B==n using aS with|true=>rw[q] at e;(have i:=bf e;subst i);rw[eq_of_beq q];exact S|false=>rw[q] at e;exact M B E e
   refine uh (d ((n,c)::a) (λB T J=>P B T<|dT _ J) g) λcl V Y O b=>vK cl ?_ Y (λB E e=>?_) λB J=>?_
   ·rw[aC (by rfl),f,pure_bind ..,pure_bind ..];exact V
   ·refine O B E ?_;rw[pP];induction q:B==n using aS with|true=>dsimp only;rw[eq_of_beq q] at e;have:=M n E e;rw[S] at this;exact this|false=>exact e
   ·refine bZ (sS.mp J) (λh=>?_) λh=>?_
    ·cases h
     exact⟨c,O n c (by rw[pP];simp)⟩
    ·exact b B h
  ·have:(k==sV)=aq:=by simpa using R
   refine uh (d a (λB T J=>P B T<|dT _ J) M) λcl V Y O b=>vK cl ?_ Y O λB J=>?_
   ·rw[aB (by rw[this];exact dq),pure_bind ..];exact V
   ·refine bZ (sS.mp J) (λh=>?_) λh=>?_
    ·cases h;exact aT rfl R
    ·exact b B h
theorem agu(h:∀n,(n,sV)∈scope.names->∃c,env.cells.lookup n=aa c):
  ∃cl,closureFor scope env=pure cl/\(∀n c,cl.lookup n=aa c->env.cells.lookup n=aa c)/\∀n,(n,sV)∈scope.names->∃c,cl.lookup n=aa c:=by
 refine uh (adH (env:=env) scope.names [] (λn k B E=>h n<|rws E B) λZ Z e=>by exact bk e) λcl J M Z O=>cu cl ?_ M O;show(forIn scope.names [] _>>=λr=>pure r)=_;rw[bind_pure ..];exact J
theorem abY{E:Ar}(hv:v=.ref a)(c:Al m d=ae)(h:ku F v d (d9 m d) n i io)(b:s.heap.get? I=aa io)(q:Q (.ref I) s):
  wpAny (model prog w) A (pyIter<|.ref I) Q E s:=by
 subst hv;induction d using V.casesOn with
 |dW x y z=>
  rw[h] at b;exact wpAny_pyIter_rangeiter b q
 |lst l=>
  exact aW h λB J=>aoW (cu io b B J) q
 |ref j=>
  exact aW (h.1 c) λB J=>aoW (cu io b B J) q
 |_=>exact dG c
section
variable{X:Fx}
structure ou(X:Fx)(scope:d5)(xn:Str)(fr:List Nat)(ns:List Str):Prop where
 kind:scope.kind=.function
 apL:X.sc.kind=.function
 Jm:∀x∈scope.names,x.2≠.cell
 ba:∀x∈scope.names,x.2=.local ->scope.names.lookup x.1=aa .local
 own:scope.names.lookup xn=aa .local
 nd:(xn::ns).Nodup
 len:fr.length=ns.length
 at_:∀(j:Nat)(k)(n),fr[j]?=aa k->ns[j]?=aa n->X.ns[k]?=aa n/\X.sc.names.lookup n=aa .cell/\(nq scope X.sc).names.lookup n=aa .cell/\(n,sV)∈scope.names
 all:∀n,(n,sV)∈scope.names->∃j:Nat,ns[j]?=aa n
theorem adI{cond:Option E}(h:bI X.ok X.κ e m (.comp a b cond fr)=r)(hb:r≠.H):(∀{j k:Nat},fr[j]?=aa k->k<e.length)/\(R.bind (bI X.ok X.κ e m b) λv m=>R.opt (td m v) λl=>
  uZ (λe m=>yF X.ok X.κ e m cond) (λe m=>bI X.ok X.κ e m a) (fr.map λk=>(e[k]?).getD .un) v (d9 m v) l.length l.length [] m)=r:=by
 revert h;refine(?_:(match fr.all λk=>decide (k<e.length) with|true=>_|false=>R.H)=r->_)
 induction q:fr.all λk=>decide (k<e.length) using aS with|true=>exact λh=>⟨λg=>of_decide_eq_true<|List.all_eq_true.mp q _<|jW g,h⟩|false=>exact λh=>aT h.symm hb
theorem QB(h:td m v=aa l):Al m v=ae/\ei m v=aa l/\l.length<=1000:=
 lg h λB E=>lZ E λR J M=>lg M λO P=>rws (bf P)<|cv B J O
theorem agv(r:Rl C F ι v d)(h:Al m d=ae):∃a,v=.ref a:=by cases r with|_=>first|exact⟨_,rfl⟩|exact dG h
section
variable{K:FC}{F:Fz}{ι:lk}{m:J}{env:Env}{s:az}{cl:List (Str×aH)}{scope:d5}{xn:Str}{fr:z0}{ns:List Str}
inductive VX(X:Fx)(K:FC)(F:Fz)(ι:List aH)(s:az)(scope:d5)(n:Str)(sl:Sl):Prop|i(c:aH)(v:Option ar)(oc:Obj)(q1:K.p.cells.lookup n=aa c)(q2:s.heap.get? c=aa oc)(si:oc.data=.cell v)(q3:ig X.C K.bc F ι s.heap v sl)(q4:Pv K.bc F ι c)(no:∀o,sl≠.own o)(g:(nq scope X.sc).names.lookup n=aa .cell)(f:(n,sV)∈scope.names)
theorem QC(S:ou X scope xn fr ns)(O:X.Of K)(a:K.ro=aq)(x:FS X.C K F ι m env s)(bC:∀{j k:Nat},fr[j]?=aa k->k<env.length){j:Nat}(hn:ns[j]?=aa n):∃k sl,fr[j]?=aa k/\env[k]?=aa sl/\VX X K F ι s scope n sl:=by refine gl λl J=>?_;refine bu x.fm λo M=>?_;have B:fr[j]?=aa (fr[j]'(rwl S.len (List.getElem?_eq_some_iff.mp hn).1)):=cT _;have E:=cT<|bC B;refine mB (S.at_ j _ n B hn) λP R T g4=>aW (M.ij a _ n _ (rwl O.ns P) E ((aw (λc:d5=>c.names.lookup n) O.sc).trans R)) λV no=>gx V λc v Y b d e=>?_;refine bo b λf g h=>?_;refine J ?_;exact fX _ _ B E<|.i c v f Y g h d e no T g4
theorem abZ(S:ou X scope xn fr ns)(O:X.Of K)(a:K.ro=aq)(x:FS X.C K F ι m env s)(bC:∀{j k:Nat},fr[j]?=aa k->k<env.length):
  ∃cl,closureFor scope K.p=pure cl/\(∀n c,cl.lookup n=aa c->K.p.cells.lookup n=aa c)/\∀n,(n,sV)∈scope.names->∃c,cl.lookup n=aa c:=
 agu λn B=>bu (S.all n B) λj E=>cP (QC S O a x bC E) λk M Z Z h=>match h with|.i c _ _ J ..=>⟨c,J⟩
@[elab_as_elim] theorem anh{P:aH->Obj->Prop}(h:(a,o)∈[(D,x),(I,y)])(h1:P D x)(h2:P I y):P a o:=
 (sS.mp h).elim (λh=>rN h λm s=>m▸rwl s h1) λh=>rN (GL.mp h) λm s=>m▸rwl s h2
noncomputable def x7(K:FC)(s:az)(F:Fz)(ι:lk)(scope:d5)(cl:List (Str×aH))(L:aH)(ns:List Str):FC:={bc:=s,cN:=F,cy:=ι,p:=compEnvC scope cl L K.p,ns:=ns,ex:=[],ro:=ae,out:=K.all}
theorem QD(O:X.Of K):relabel scope K.p=nq scope X.sc:=by unfold relabel nq Env.kindOf;rw[O.sc]
theorem QE(O:X.Of K):(x7 K s F ι scope cl L ns).p.scope=nq scope X.sc:=QD O
theorem adJ(S:ou X scope xn fr ns)(O:X.Of K)(x:FS X.C K F ι m env s):(X.comp scope (xn::ns)).Of (x7 K s F ι scope cl L (xn::ns)):=
 ⟨⟨S.kind,O.make.dB,O.make.blt,S.nd⟩,rfl,QE O,rfl,λh=>(ia h),x.fx O,λh=>(dG h)⟩
theorem QF(S:ou X scope xn fr ns)(O:X.Of K):(nq scope X.sc).names.lookup xn=aa .local :=
 (aw (λc:d5=>c.names.lookup xn)<|QD O).symm.trans (Xv (env:=K.p) S.own)
theorem aaN(S:ou X scope xn fr ns)(O:X.Of K)(a:K.ro=aq)(x:FS X.C K F ι m env s)(bC:∀{j k:Nat},fr[j]?=aa k->k<env.length){k:Nat}(h1:(xn::ns)[k]?=aa n)(h2:(Sl.un::fr.map λk=>(env[k]?).getD .un)[k]?=aa sl):
  (n=xn/\sl=.un)\/VX X K F ι s scope n sl:=by
 induction k using qX with|zero=>exact .inl ⟨(bf h1).symm,(bf h2).symm⟩|succ j=>refine .inr (cP (QC S O a x bC (j:=j) h1) λk J B E h=>?_);have h2:=h2;have e:=bf<|(aw (zf _) B).symm.trans<|gB.symm.trans h2;exact rws ((aw (Option.getD · Sl.un) E).symm.trans e) h
theorem aaO(S:ou X scope xn fr ns)(O:X.Of K)(l:K.ro=aq)(x:FS X.C K F ι m env s)(bC:∀{j k:Nat},fr[j]?=aa k->k<env.length)(yK:∀n c,cl.lookup n=aa c->K.p.cells.lookup n=aa c)(q:∀n,(n,sV)∈scope.names->∃c,cl.lookup n=aa c)
  {bQ:eM}{t:Nat}{L I D:aH}{io e:Obj}{i:Str->Option ar}(u:bQ.Ns L i)(d:∀b o,s.heap.get? b=aa o->bQ.get? b=aa o)(PL:Pv s F ι L)(w:Pv s F ι I)(y:Pv s F ι D)(z:bQ.get? I=aa io)(A:bQ.get? D=aa e)(G:I≠L)(H:D≠L)(n3:D≠I):
  FS X.C (((x7 K s F ι scope cl L (xn::ns)).put I io).put D e) F ι m (.un::fr.map λk=>(env[k]?).getD .un) {s with heap:=bQ,toks:=t}:=by
 have P:∀n,(x7 K s F ι scope cl L (xn::ns)).p.kindOf n=(nq scope X.sc).names.lookup n:=λn=>aw (λc:d5=>c.names.lookup n)<|QE O;have vX:=λ{k n sl}=>aaN (k:=k) (n:=n) (sl:=sl) S O l x bC;have noOwn:∀k,¬rR (.un::fr.map λk=>(env[k]?).getD .un) k:=λk h=>h.elim λo Y=>
  have N:=aoX (List.getElem?_eq_some_iff.mp Y).1<|aw sJ<|(bJ ..).trans S.len
  (vX (cT N) Y).elim (λh=>nomatch h.2) λh=>h.casesOn λZ Z Z Z Z Z Z Z no Z Z=>no o rfl
 refine bu x.fm λQ R=>⟨x.st.start.grow d,⟨i,u,PL,λk n sl E B M=>?_,λJ=>(ia J),λk n sl E B M=>?_,λk n sl E B=>?_,λa b c E B=>R.oX a b c (yK _ _ E)<|yK _ _ B,λk j a b c Z Z M=>aT M<|noOwn k,λk n Z B=>aT B<|noOwn k,λa o U=>?_,?_⟩,x.wd⟩
 ·exact(vX E B).elim (λh=>rwl h.2 .un) λh=>h.casesOn λZ Z Z Z Z Z Z Z Z g Z=>nomatch(g.symm.trans (P n).symm).trans M
 ·exact(vX E B).elim (λh=>.inl h.2) λh=>h.casesOn λc v W q1 q2 si q3 q4 no g f=>by induction q3 using ig.casesOn with|un=>exact .inl rfl|val r=>exact bu (q n f) λT V=>.inr (qD T W _ _ V (rws (bf<|q1.symm.trans<|yK n T V) q2) si (rws (bf<|q1.symm.trans<|yK n T V) q4.ni) rfl r)|own _ _ _=>exact aT rfl (no _)
 ·exact(vX E B).elim (λh=>.inl<|(P n).trans<|rws h.1.symm<|QF S O) λh=>h.casesOn λZ Z Z Z Z Z Z Z Z g Z=>.inr<|.inl<|(P _).trans g
 ·exact anh U (vJ y A H (λk n Z B=>aT B<|noOwn k) λZ Z Z Z Z Z Z J=>(ia J)) (vJ w z G (λk n Z B=>aT B<|noOwn k) λZ Z Z Z Z Z Z J=>(ia J))
 ·exact mW.mpr ⟨λh=>n3<|GL.mp h,mW.mpr ⟨λh=>(nomatch h),Nr⟩⟩
end
theorem I1{h:eM}(ha:h.objs.size<=a):h.get? a=ag:=by induction e:h.get? a using aO with|none=>rfl|some o=>exact aT (i7 e) (Nat.not_lt.mpr ha)
theorem ab0{h bQ:eM}(a:(h.push io).objs.size=D)(d:((h.push io).push<|lobj #[] 0).objs.size=L)(e:io.isFreed=aq)(c:dp L (((h.push io).push<|lobj #[] 0).push o) bQ):
  (∀b q,h.get? b=aa q->bQ.get? b=aa q)/\bQ.get? h.objs.size=aa io/\bQ.get? D=aa (lobj #[] 0)/\(h.objs.size≠L/\D≠L/\D≠h.objs.size)/\h.get? L=ag/\h.get? D=ag:=by
 have J:D=h.objs.size+1:=a.symm.trans<|za _ _;have M:=d.symm.trans<|(za _ _).trans<|aw sJ a;have B:h.objs.size<D:=J▸wy _;have E:=M▸wy _;exact⟨λb q g=>c b q (ju<|d7 (d7 (i7 g) B) E)<|eT _<|eT _<|eT _ g,
  c _ _ (ju<|d7 B E) (eT _<|eT _<|mT _ e),
  c _ _ (ju E) (eT _<|rws a<|mT _ rfl),cv (ju<|d7 B E) (ju E)<|zg B,I1<|eg<|d7 B E,I1<|eg B⟩
section
variable{elt iter:bj}{xn:Str}{px pos:Pos}{ifs:List bj}{scope:d5}{nz uq:E}{dc:Option E}{fr:z0}{ns:List Str}{K:FC}{F:Fz}{ι:lk}{m:J}{env:Env}{s:az}{A:bL}{r:R V}
theorem adK{I D L:aH}{R:gP->az->Prop}(S:ou X scope xn fr ns)(he:SE (X.comp scope (xn::ns)) elt nz)(hc:uo (X.comp scope (xn::ns)) ifs dc)(O:X.Of K)(w:cI X.lv A K.all)(x:FS X.C K F ι m env s)
  (q:Rl X.C F ι v d)(y:td m d=aa l)(hr:uZ (λe m=>yF X.ok X.κ e m dc) (λe m=>bI X.ok X.κ e m nz) (fr.map λk=>(env[k]?).getD .un) d (d9 m d) l.length l.length [] m=r)(hb:r≠.H)(t:ku F v d (d9 m d) l.length 0 io)
  (u:FS X.C (((x7 K s F ι scope cl L (xn::ns)).put I io).put D<|lobj #[] 0) F ι m (.un::fr.map λk=>(env[k]?).getD .un) z)
  (G:∀b c g f i j n o,r=.ok (.lst i) g->St X.C s F ι b c g f->f.heap.Ns L o->Pv s b c L->f.heap.get? D=aa (lobj j n)->Pv s b c D->aU X.C b c j.toList i->R (.ok .next) f):
  cM X.C.md A (.compStart (.ListComp elt [⟨.Name xn px,iter,ifs,0⟩] scope pos) 0 (.ref I) (.ref D)<|compEnvC scope cl L K.p) R z:=
 fW (QB y) λB hit hlen=>bu (agv q B) λa M=>P.compStart (abX (K0:=x7 K s F ι scope cl L (xn::ns)) he hc (adJ S O x) w rfl (QF S O) hlen q (λs h=>abW h) l.length F ι m _ .un [] #[] 0 io r (dR _) (.refl F) (.refl ι) u (rwl (k7 _) t) .nil (nP _) hr hb λb c g f i j n W e Z g2 T V=>fW T.done λE Y N=>E.fm.elim λo J=>G b c g f i j n o e E.st J.ns J.pv Y N.pv V) λQ U=>abY M B t u.swap.done.2.1 U
theorem QG(S:ou X scope xn fr ns)(i:X.ro=aq)
  (hi:SE X iter uq)(he:SE (X.comp scope (xn::ns)) elt nz)(hc:uo (X.comp scope (xn::ns)) ifs dc)(O:X.Of K)(u:cI X.lv A K.all)(x:FS X.C K F ι m env s)(hr:bI X.ok X.κ env m (.comp nz uq dc fr)=r)(hb:r≠.H)
  {Ex:Ar}(hE:eL X.C K F ι env r Ex){Fin:ar->aH->az->Prop}
  (o:∀f g m1 s1 b c j a k n q D L t,FS X.C K f g m1 env s1->Le F f->Pre ι g->St X.C s1 f g b c j a->r=.ok (.lst k) j->a.heap.Ns L t->Pv s1 b c L->a.heap.get? D=aa (lobj n q)->Pv s1 b c D->D≠L->aU X.C b c n.toList k->Fin (.ref D) L a):
  ∃cl,closureFor scope K.p=pure cl/\aD X.C.md A (eval iter K.p) (λx w=>aD X.C.md A (pyIter x) (λy z=>aD X.C.md A (newList []) (λacc G=>aD X.C.md A (newFunctionEnv scope K.p.globals cl [] K.p.qual ag .none<|aa K.p) (λcenv I=>cM X.C.md A (.compStart (.ListComp elt [⟨.Name xn px,iter,ifs,0⟩] scope pos) 0 y acc {cenv with scope:=relabel scope K.p}) (λr a=>match r with|.ok _=>Fin acc cenv.locals a|.error _=>False) I) Ex G) Ex z) Ex w) Ex s:=by
 have i:=O.ro.trans i;refine aW (adI hr hb) λR hr=>cA (abZ S O i x R) λcl Y N Q=>i12 cl Y (hi.cC O u x hr hb hE λv d m1 f g s1 hr U W B T=>oi hr hb λl V hr=>P.of (OZ B T (QB V).2.1 λio cx B2=>P.of (MF (P.of (wpAny_newFunctionEnv S.Jm (λZ h=>nomatch h) (λbQ J B3=>?_) S.kind))<|nP _)));exact VF (ab0 rfl rfl B2 B3.extBut) λM gI gD E nL nD=>adK S he hc O u B T V hr hb cx (aaO S O i B R N Q J M (B.st.start.jz nL) (B.st.start.jz<|I1<|dR _) (B.st.start.jz nD) gI gD E.1 E.2.1 E.2.2)
  λb c j a k n q t e st J pL hD pD r5=>o f g m1 s1 b c j a k n q _ _ t B U W st e J pL hD pD E.2.1 r5
end
theorem RJ{dc:Option E}(S:ou X scope a fr ns)(d:X.ro=aq)
  (hi:SE X iter e)(he:SE (X.comp scope (a::ns)) b f)(hc:uo (X.comp scope (a::ns)) ifs dc)(hs:∀env x,foldedSetIterable iter env x=pure x):SE X (.ListComp b [⟨.Name a px,iter,ifs,0⟩] scope pos) (.comp f e dc fr):=
 SE.intro λ{K F ι m env s A r Q E} O j x k l n o=>by
  rw[arm_eval_ListComp ..];refine bo (QG (px:=px) (pos:=pos) S d hi he hc O j x k l o (Fin:=λM L B=>∃p,B.heap.Ns L p/\∀T,zd L B.heap T->Q M {B with heap:=T})
   λF1 ji m1 s1 V Y q B u v w D L z C G H R I N U W c Z r5=>⟨z,N,λh7 F9=>
    have J:Le V (V.put D<|lobj v w):=.put c.fr
    n _ _ (.i (.lst u) q _ Y I ((G.trans R.f0).trans J) (H.trans R.i0) (C.after<|(R.yk (t:=B.toks) U F9.extBut).freeze c<|F9.extBut _ _ Z W)<|.lst (Fz.m6 ..) rfl rfl ⟨rfl,rfl⟩<|r5.mono J<|.refl Y)⟩) λcl nI h=>?_
  exact P.comprehension (g:=⟨.Name a px,iter,ifs,0⟩) (gs:=[]) rfl (λy=>hs _ y) nI S.kind S.ba h
end
inductive yL(C:Cx)(F:Fz)(ι:List aH)(m:J)(e:Env):Fl->nR->Prop|nx:yL C F ι m e (.nx e m) .next|br:yL C F ι m e (.br e m) .brk|rt{v:ar}{d:V}(r:Rl C F ι v d):yL C F ι m e (.rt d m) (.ret v)
theorem yL.ind{e:Env}{f:nR}{G:Fl->nR->Prop}(h:yL C F ι m e x f)(nx:G (.nx e m) .next)(br:G (.br e m) .brk)(rt:∀v d,Rl C F ι v d->G (.rt d m) (.ret v)):G x f:=by cases h with|nx=>exact nx|br=>exact br|rt r=>exact rt _ _ r
inductive gN(C:Cx)(K:FC)(F:Fz)(ι:List aH)(r:Fl)(f:nR)(s':az):Prop|i(F':Fz)(av:List aH)(m':J)(e:Env)(h1:Le F F')(h2:Pre ι av)(x:FS C K F' av m' e s')(h:yL C F' av m' e r f):gN C K F ι r f s'
inductive lL(C:Cx)(K:FC)(F:Fz)(ι:List aH)(r:Fl)(x:ar)(s':az):Prop|i(why:Nm)(F':Fz)(av:List aH)(m':J)(e:Env)(h1:Le F F')(h2:Pre ι av)(q:r=.ex why e m')(fl:sj C K F' av m' e s' x why):lL C K F ι r x s'
section
variable{C:Cx}{K:FC}{F F':Fz}{ι av:lk}{m m':J}{env e:Env}{s s':az}{A:bL}{M:mS}{r:Fl}{α β:Type}
theorem gN.back(h1:Le F F')(h2:Pre ι av)(h:gN C K F' av r f s):gN C K F ι r f s:=
 match h with|.i A B m e a b x c=>.i A B m e (h1.trans a) (h2.trans b) x c
theorem lL.back(h1:Le F F')(h2:Pre ι av)(h:lL C K F' av r x s):lL C K F ι r x s:=
 match h with|.i why A B m e a b c d=>.i why A B m e (h1.trans a) (h2.trans b) c d
noncomputable def mF(C:Cx)(K:FC)(F:Fz)(ι:lk)(r:Fl)(Q:nR->az->Prop):Prop:=∀f s',gN C K F ι r f s'->Q f s'
noncomputable def jk(C:Cx)(K:FC)(F:Fz)(ι:lk)(r:Fl)(E:Ar):Prop:=∀e s',lL C K F ι r e s'->E e s'
variable{Q:nR->az->Prop}{E:Ar}
theorem mF.up(h:mF C K F ι r Q)(h1:Le F F')(h2:Pre ι av):mF C K F' av r Q:=λf s q=>h f s<|q.back h1 h2
theorem jk.up(h:jk C K F ι r E)(h1:Le F F')(h2:Pre ι av):jk C K F' av r E:=λe s q=>h e s<|q.back h1 h2
theorem mF.nx(h:mF C K F ι r Q)(h1:Le F F')(h2:Pre ι av)(x:FS C K F' av m e s)(hr:.nx e m=r):Q .next s:=h _ _<|.i F' av m e h1 h2 x<|rws hr .nx
theorem mF.br(h:mF C K F ι r Q)(h1:Le F F')(h2:Pre ι av)(x:FS C K F' av m e s)(hr:.br e m=r):Q .brk s:=h _ _<|.i F' av m e h1 h2 x<|rws hr .br
theorem mF.rt(h:mF C K F ι r Q)(h1:Le F F')(h2:Pre ι av)(x:FS C K F' av m e s)(g:Rl C F' av v d)(hr:.rt d m=r):Q (.ret v) s:=h _ _<|.i F' av m e h1 h2 x<|rws hr<|.rt g
theorem US{Q:β->az->Prop}(h:x≠.H->aD M A t (cg C K F ι env x rel) (kG C K F ι env x) s)(hr:ef env x f=r)(hb:r≠.H)(hE:jk C K F ι r E)
  (k:∀v d m F' av s,f d m=r->Le F F'->Pre ι av->FS C K F' av m env s->rel F' av v d->Q v s):aD M A t Q E s:=
 P.mono (h λe=>hb (hr.symm.trans (aw (ef env · f) e)))
  (λv s' B=>match B with|.i d m' F' av e J O x y=>k v d m' F' av s' ((aw (ef env · f) e).symm.trans hr) J O x y)
  λe s' B=>match B with|.i why m' F' av q J O x=>hE e s' (.i why F' av m' env J O (hr.symm.trans (aw (ef env · f) q)) x)
theorem anj(h:x≠.H->aD M A t (gN C K F ι x) (lL C K F ι x) s)(hr:Fl.seq x f=r)(hb:r≠.H)(hE:jk C K F ι r E)
  (k:∀m e F' av s,f e m=r->Le F F'->Pre ι av->FS C K F' av m e s->Q .next s)(a:∀s,gN C K F ι r .brk s->Q .brk s)(b:∀v s,gN C K F ι r (.ret v) s->Q (.ret v) s):aD M A t Q E s:=
 P.mono (h λe=>hb (hr.symm.trans (aw (Fl.seq · f) e)))
  (λS s' O=>match O with|.i F' av m' e B J R T=>T.ind (G:=λx S=>Fl.seq x f=r->Q S s') (λhr=>k m' e F' av s' hr B J R) (λhr=>a s'<|.i F' av m' e B J R<|rws hr .br) (λv d g hr=>b v s'<|.i F' av m' e B J R<|rws hr<|.rt g) hr)
  λe s' O=>match O with|.i why F' av m' V B J q x=>hE e s' (.i why F' av m' V B J (hr.symm.trans (aw (Fl.seq · f) q)) x)
end
section
variable{X:Fx}
noncomputable def SS(X:Fx)(st:iv)(d:S):Prop:=
 ∀(K)(F)(ι)(m)(B)(s)(A),X.Of K->cI X.lv A K.all->FS X.C K F ι m B s->sf X.ok X.κ B m d≠.H->
  aD X.C.md A (exec st K.p) (gN X.C K F ι<|sf X.ok X.κ B m d) (lL X.C K F ι<|sf X.ok X.κ B m d) s
noncomputable def gO(X:Fx)(st:List iv)(d:List S):Prop:=
 ∀(K)(F)(ι)(m)(B)(s)(A),X.Of K->cI X.lv A K.all->FS X.C K F ι m B s->eC X.ok X.κ B m d≠.H->
  aD X.C.md A (execs st K.p) (gN X.C K F ι<|eC X.ok X.κ B m d) (lL X.C K F ι<|eC X.ok X.κ B m d) s
theorem SS.intro{st:iv} (h:∀{K:FC}{F:Fz}{ι:lk}{m:J}{env:Env}{s:az}{A:bL}{r:Fl}{Q:nR->az->Prop}{E:Ar}(O:X.Of K)(a:cI X.lv A K.all)(x:FS X.C K F ι m env s)(hr:sf X.ok X.κ env m d=r)(hb:r≠.H)
  (hQ:mF X.C K F ι r Q)(hE:jk X.C K F ι r E),aD X.C.md A (exec st K.p) Q E s):SS X st d:=
 λZ Z Z Z Z Z Z O a x hb=>h O a x rfl hb (λZ Z y=>y) λZ Z y=>y
theorem gO.intro{st:List iv} (h:∀{K:FC}{F:Fz}{ι:lk}{m:J}{env:Env}{s:az}{A:bL}{r:Fl}{Q:nR->az->Prop}{E:Ar}(O:X.Of K)(a:cI X.lv A K.all)(x:FS X.C K F ι m env s)(hr:eC X.ok X.κ env m d=r)(hb:r≠.H)
  (hQ:mF X.C K F ι r Q)(hE:jk X.C K F ι r E),aD X.C.md A (execs st K.p) Q E s):gO X st d:=
 λZ Z Z Z Z Z Z O a x hb=>h O a x rfl hb (λZ Z y=>y) λZ Z y=>y
section
variable{K:FC}{F:Fz}{ι:lk}{m:J}{env:Env}{s:az}{A:bL}{r:Fl}{E':Ar}
theorem SE.pg(h:SE X e d)(O:X.Of K)(c:cI X.lv A K.all)(x:FS X.C K F ι m env s)(hr:ef env (bI X.ok X.κ env m d) f=r)(hb:r≠.H)(hE:jk X.C K F ι r E')
  (k:∀v d m a b s,f d m=r->Le F a->Pre ι b->FS X.C K a b m env s->Rl X.C a b v d->Q v s):aD X.C.md A (eval e K.p) Q E' s:=US (h K F ι m env s A O c x) hr hb hE k
theorem agw:ef env x (bF a b)=ef env (fc x) (bF a b):=by induction x using R.casesOn with|ok v m=>induction v using V.casesOn<;>rfl|_=>rfl
theorem SB.pg(h:SB X e d)(O:X.Of K)(i:cI X.lv A K.all)(x:FS X.C K F ι m env s)(hr:ef env (bI X.ok X.κ env m d) (bF a b)=r)(hb:r≠.H)(hE:jk X.C K F ι r E')
  (k:∀c m f g s,bF a b (.bool c) m=r->Le F f->Pre ι g->FS X.C K f g m env s->Q c s):aD X.C.md A (isTrue e K.p<|eval e K.p) Q E' s:=
 US (h K F ι m env s A O i x) (agw.symm.trans hr) hb hE λc Z m F ι s hr B E x e=>k c m F ι s (rws e hr) B E x
theorem gO.run{st:List iv}(h:gO X st d)(O:X.Of K)(a:cI X.lv A K.all)(x:FS X.C K F ι m env s)(hr:eC X.ok X.κ env m d=r)(hb:r≠.H)(hQ:mF X.C K F ι r Q)(hE:jk X.C K F ι r E'):aD X.C.md A (execs st K.p) Q E' s:=by subst hr;exact P.mono (h K F ι m env s A O a x hb) hQ hE
end
theorem agx:gO X [] []:=gO.intro λO E x B J hQ M=>P.of<|CD<|hQ.nx (.refl _) (.refl _) x B
set_option backward.match.sparseCases true in
theorem execs_cons(st)(rest)(env):execs (st::rest) env=(do
  match<-exec st env with|.next=>execs rest env|f=>pure f):=rfl
theorem adL{st:iv}(h:SS X st d)(hs:gO X rest ds):gO X (st::rest) (d::ds):=
 gO.intro λ{K F ι m B s A r Q E} O M x J R hQ hE=>rwl (p:=λt=>aD _ _ t _ _ _) (execs_cons st rest K.p) (P.bind (anj (h K F ι m B s A O M x) J R hE
  (λm e V Y s J S T x=>hs.run O M x J R (hQ.up S T)<|hE.up S T) (λs h=>P.pure<|hQ _ _ h) λv s h=>P.pure<|hQ _ _ h))
theorem eN{st:iv}:SS X st .H:=λZ Z Z Z Z Z Z Z Z Z B=>aT rfl B
theorem agy:SS X (.Pass pos) .pass:=SS.intro λO E x B J hQ M=>by rw[arm_exec_Pass ..];exact P.bind<|P.standAt<|P.pure<|hQ.nx (.refl _) (.refl _) x B
theorem ajh:SS X (.Break pos) .brk:=SS.intro λO E x B J hQ M=>by rw[arm_exec_Break ..];exact P.bind<|P.standAt<|P.pure<|hQ.br (.refl _) (.refl _) x B
theorem agz:SS X (.Return ag pos) (.ret ag):=SS.intro λO E x B J hQ M=>by rw[arm_exec_Return ..];exact P.bind<|P.standAt<|P.pure<|hQ.rt (.refl _) (.refl _) x .none B
theorem aji(h:SE X e d):SS X (.Return (aa e) pos) (.ret<|aa d):=SS.intro λ{K F ι m J s A r Q E} O M x B R hQ S=>by rw[arm_exec_Return ..];exact P.bind (P.standAt (P.bind (h.pg O M x B R S λv d m Y a s B T V x g=>P.pure<|hQ.rt T V x g B)))
theorem ab1:dropValue e pos uD=pure .next:=by induction e using iJ<;>rfl
theorem none_inv(hr:(Fl.opt d.rO λZ=>Fl.nx e m)=r)(g:Rl C F ι v d)(hb:r≠.H):v=.none/\.nx e m=r:=
 n9 hr hb λp Z h=>⟨tv<|rws p.2 g,h⟩
theorem agA(h:SE X e d)(a:∀env,swapsWith e ag pos.line env=pure aq)(hf:X.sc.kind=.function):SS X (.Expr e pos) (.expr d):=SS.intro λ{K F ι m env s A r Q E} O M x B J hQ R=>by
 have S:¬interactive K.p=ae:=λh=>by unfold interactive at h;rw[O.sc,hf] at h;exact dG h
 rw[arm_exec_Expr ..];refine P.bind<|P.standAt ?_;rw[aB S];exact P.bz (cV (a _) (P.bind (h.pg O M x B J R λv d m c f s B T V x g=>aW (none_inv B g J) λY b=>rwl Y (rwl (p:=λt=>aD _ _ t _ _ _) ab1<|P.pure<|hQ.nx T V x b))))
theorem alp{dt:E}(d:SB X t dt)(ha:gO X a e)(f:gO X b g):SS X (.If t a b pos) (.ifs dt e g):=SS.intro λ{K F ι m V s A r Q E} O R x B S T hE=>by rw[arm_exec_If ..];exact P.bind (P.standAt (P.bind (d.pg O R x B S hE λc m Y h s B J M x=>match c,B with|true,B=>ha.run O R x B S (T.up J M) (hE.up J M)|false,B=>f.run O R x B S (T.up J M)<|hE.up J M)))
end
theorem uQ{α:Type}[Decidable c]{a b r:α}(hr:ite c a b=r)(hb:r≠b){G:Prop}(kk:c->a=r->G):G:=by
 by_cases q:c
 ·exact kk q<|(aC q).symm.trans hr
 ·exact aT ((aB q).symm.trans hr).symm hb
inductive v3(C:Cx)(K:FC)(F:Fz)(ι:List aH)(r:R Env)(s':az):Prop|i(e':Env)(m':J)(F':Fz)(av:List aH)(q:r=.ok e' m')(h1:Le F F')(h2:Pre ι av)(x:FS C K F' av m' e' s'):v3 C K F ι r s'
section
variable{X:Fx}{C:Cx}{K:FC}{F F':Fz}{ι av:lk}{m m':J}{env e:Env}{s s':az}{A:bL}{r:R Env}{v:ar}{dv:V}{Q:Unit->az->Prop}{E':Ar}
noncomputable def ur(C:Cx)(K:FC)(F:Fz)(ι:lk)(r:R Env)(Q:Unit->az->Prop):Prop:=∀u s',v3 C K F ι r s'->Q u s'
theorem v3.back(h1:Le F F')(h2:Pre ι av)(h:v3 C K F' av r s):v3 C K F ι r s:=
 match h with|.i e m v A q a b x=>.i e m v A q (h1.trans a) (h2.trans b) x
theorem ur.up(h:ur C K F ι r Q)(h1:Le F F')(h2:Pre ι av):ur C K F' av r Q:=λu s y=>h u s<|y.back h1 h2
theorem ur.at(h:ur C K F ι r Q)(h1:Le F F')(h2:Pre ι av)(x:FS C K F' av m e s)(q:.ok e m=r):Q u s:=h u s<|.i e m F' av q.symm h1 h2 x
noncomputable def AT(X:Fx)(t:bj)(d:T):Prop:=
 ∀(K)(F)(ι)(m)(env)(s)(A)(v)(dv),X.Of K->cI X.lv A K.all->FS X.C K F ι m env s->Rl X.C F ι v dv->mm X.ok X.κ env m dv d≠.H->
  aD X.C.md A (assign t K.p v) (λZ s'=>v3 X.C K F ι (mm X.ok X.κ env m dv d) s') (kG X.C K F ι env<|mm X.ok X.κ env m dv d) s
theorem AT.intro (h:∀{K:FC}{F:Fz}{ι:lk}{m:J}{env:Env}{s:az}{A:bL}{v:ar}{dv:V}{r:R Env}{Q:Unit->az->Prop}{E:Ar}(O:X.Of K)(a:cI X.lv A K.all)(x:FS X.C K F ι m env s)(g:Rl X.C F ι v dv)
  (hr:mm X.ok X.κ env m dv d=r)(hb:r≠.H)(hQ:ur X.C K F ι r Q)(hE:eL X.C K F ι env r E),aD X.C.md A (assign t K.p v) Q E s):AT X t d:=
 λZ Z Z Z Z Z Z Z Z O a x g hb=>h O a x g rfl hb (λZ Z y=>y) λZ Z y=>y
theorem AT.run(h:AT X t d)(O:X.Of K)(a:cI X.lv A K.all)(x:FS X.C K F ι m env s)(g:Rl X.C F ι v dv)(hr:mm X.ok X.κ env m dv d=r)(hb:r≠.H)(hQ:ur X.C K F ι r Q)(hE:eL X.C K F ι env r E'):aD X.C.md A (assign t K.p v) Q E' s:=by subst hr;exact P.mono (h K F ι m env s A v dv O a x g hb) hQ hE
theorem Fx.Of.kd(O:X.Of K)(y):K.p.kindOf y=X.sc.names.lookup y:=aw (λc:d5=>c.names.lookup y) O.sc
theorem alq(a:X.ro=aq){pos:Pos}{k:Nat}(hk:X.ns[k]?=aa y)(b:yo (X.sc.names.lookup y)=ae):AT X (.Name y pos) (.nm k):=.intro λO A x g m r s B=>by rw[Np ..];exact uQ m r λc e=>P.bind (P.standAt (P.of (Aa x O.make (rwl O.ns hk) c (rwl (O.kd y) b) (.inr<|O.ro.trans a) g λs' v=>s.at (.refl _) (.refl _) v e)))
theorem ajj(h:SE X o d)(hi:SE X i j):AT X (.Subscript o i pos) (.sub d j):=.intro λO C x g m r hQ E=>by rw[aoY ..];exact P.bind (P.holding (h.cC O C x m r E λu M m' F' av s' m s v x F=>P.bind (P.holding (hi.cC O C x m r (E.up s v) λQ R S T V Y m A B x J=>oi m r λa q e=>P.bind (P.standAt (P.bz (jn (fh (ajb x (F.mono A B) J ((g.mono s v).mono A B) q) (λZ b K=>P.of<|G6<|hQ.at (s.trans A) (v.trans B) K e) λZ Z y=>y))))))))
theorem RK(e:ie d=aa (aa k)):d=aa (.int k):=match SQ e with|.inl h=>bk h.2.symm|.inr ⟨i,m,r⟩=>m.trans (aw (λi:Nat=>aa<|V.int i) (bf r).symm)
theorem adM{o v:V}{lo hi:La}{G:Prop}(h:qg m o lo hi v=aa m')(k:∀(j a b:Nat)(y l),o=.ref j->v=.bb y->m[j]?=aa (.bar l)->lo=aa (.int a)->hi=aa (.int b)->(a<=b/\b<=l.length/\y.length=b-a/\l.length<100000)->m.set j (.bar<|l.take a++y++l.drop b)=m'->G):G:=by unfold qg at h;refine cO h λj r e=>cO e λy s e=>cO e λl A e=>?_;exact lZ e λB p1 e=>lZ e λa p2 e=>lZ e λC p3 e=>lZ e λb E e=>lg e λc e=>k j a b y l r s A (RK<|p1.trans<|aw aa p2) (RK<|p3.trans<|aw aa E) c<|bf e
theorem adN{o:V}{lo hi:La}{u d f:ar}(x:FS C K F ι m env s)(ro:Rl C F ι u o)(g:qH C F ι d lo)(h:qH C F ι f hi)(rv:Rl C F ι v dv)(q:qg m o lo hi dv=aa m')(k:∀s' F',Le F F'->FS C K F' ι m' env s'->Q () s'):
  aD C.md A (PySem.setItem u (.ref s.heap.objs.size) v) Q E' {s with heap:=s.heap.push {cls:=.type "slice",data:=.fields #[d,f,.none]}}:=
 adM q λj a b y l B E J M O c e=>by subst B E M O;exact(Ek g).elim λR S=>(Ek h).elim λtb T=>by subst S T;have X:=x.grow (t:=s.toks) (h':=s.heap.push {cls:=.type "slice",data:=.fields #[.int a R,.int b tb,.none]}) λn p e=>eT _ e;exact P.mono (abL X J ro rv (cu _ (mT _ rfl) rfl rfl) c.1 c.2.1 c.2.2.1 c.2.2.2) (λZ Y r=>r.elim λi r=>k Y i r.1<|rws e r.2) λZ Z y=>y
theorem ajk{lo hi:Option bj}{dl a:Option E}(h:SE X o d)(hl:vQ X lo dl)(hh:vQ X hi a):AT X (.Subscript o (.Slice lo hi ag p) pos) (.eY d dl a):=.intro λ{_ _ _ _ env _ _ _ _ _ _ _} O J x g m r hQ K=>by rw[aoY ..];exact P.bind (P.holding (h.cC O J x m r K λu f m' F' av s' m s v x M=>P.bind (P.holding (P.SD (cC (hl _ F' av m' env s' _ O J x) m r (K.up s v) λi j Q R S T m A B x V=>cC (hh _ R S Q env T _ O J x) m r ((K.up s v).up A B) λk l n t w y m C F x Y=>P.of (Xb (oi m r λz q e=>P.bind (P.standAt (P.bind (P.holding (adN x ((M.mono A B).mono C F) (V.mono C F) Y (((g.mono s v).mono A B).mono C F) q λD G b c=>P.of<|G6<|hQ.at (((s.trans A).trans C).trans b) ((v.trans B).trans F) c e)))))))))))
end
section
variable{C:Cx}{K:FC}{F F':Fz}{ι av:lk}{m m':J}{env:Env}{s s':az}{A:bL}{E:Ar}
theorem agB{k:ar}(h:k=.str y t)(q:aF x=aF y):k.isStr x=ae:=by subst h;simp[Value.isStr,j1 q]
theorem agC{k:ar}(h:k=.str y t)(q:¬aF x=aF y):¬k.isStr x=ae:=by subst h;simp only[Value.isStr,bO];exact λe=>q (by rw[e])
theorem cn.putL(h:Rl C F ι v d)(r:cn C F ι es l):cn C F ι (q9 x (hashStr C.w x) (.str x t) v es) (putD (aF x) d l):=
 cn.ind (P:=λes l=>cn C F ι (q9 x (hashStr C.w x) (.str x t) v es)<|putD (aF x) d l) (.cons rfl rfl h .nil) (λe y E J es K m s A r B=>by
  refine(?_:cn C F ι (if e.key.isStr x=ae then _ else _) (if aF x=aF y then _ else _));by_cases q:aF x=aF y
  ·rw[aC<|agB m q,aC q];exact .cons m s h r
  ·rw[aB<|agC m q,aB q];exact .cons m s A B) r
theorem cn.got(h:cn C F ι es l)(n):(PySem.W.getL n es).isSome=ae:=(h.getL n).elim (λq=>cP q λZ Z Z m Z=>rwl m rfl) λq=>rwl q.2 rfl
theorem QH(x)(a)(key v):∀es,zh x es es.length=(q9 x a key v es).length|[]=>rfl|e::r=>by have m:=QH x a key v r;unfold zh at m⊢;rw[q9,W0];induction h:e.key.isStr x using aS with|true=>simp|false=>simp only[Bool.false_or,yW,if_false,jZ];rw[<-m];split<;>rfl
theorem RL(x)(a)(key v)(es):(q9 x a key v es).length<=es.length+1:=by
 induction es with|nil=>exact dR _|cons e r m=>
  refine(?_:(ite (e.key.isStr x=ae) (⟨e.hash,e.key,v⟩::r) (e::q9 x a key v r)).length<=_);by_cases c:e.key.isStr x=ae
  ·rw[aC c];exact g0 _
  ·rw[aB c];exact gZ m
set_option tactic.hygienic true in
theorem RM(hl:(qV name es).isSome=ae):(!(es.toArray).any (·.key.isStr name)&&(es.toArray).any (·.refKey))=aq:=by
 rw[<-aoZ,<-aoZ];unfold qV at hl;split at hl
 ·rename_i s m;rw[List.any_eq_true.mpr<|i12 s (CF m)<|Nt m];rfl
 ·split at hl
  ·exact dG hl
  ·rename_i z;rw[Cz] at z;rw[z,y6 ..]
theorem aaP(X:e.In s.heap)(I:InstAt s.heap x (instObj c d) c (aa<|dictOf es n))(hs:findIn e (.ref c) "__setattr__"=aa (aa<|.builtin "object.__setattr__"))
  (hp:plainOver e c=ae)(f:takerIn e c name=aa ag)(hh:hasDictIn e c=ae)(hl:(qV name es).isSome=ae)(hz:es.length<=1000000)
  (hQ:∀h' g,h'.get? d=aa (dictOf (q9 name (wK w.params name) (.str name<|s.toks+1) v es)<|zh name es n)->dp d s.heap h'->Q () {s with heap:=h',toks:=g}):
  wpAny (model prog w) A (CG (.ref x) name v) Q E s:=by
 refine set_plain X I hs (osa_open (s:={s with toks:=s.toks+1}) X I hp f λb=>bo (any_some hh) λcd B C=>?_);obtain⟨F,-,-,D⟩:=I;have D:s.heap.get? d=aa (dictOf es n):=D;have m:(s.heap.update d<|Obj.putName name (wK w.params name) (.str name<|s.toks+1) v).get? d=aa (dictOf (q9 name (wK w.params name) (.str name<|s.toks+1) v es)<|zh name es n):=by rw[<-Nu ..];exact pK _ D (by rw[Nu ..];rfl)
 refine aI<|bE<|aI<|aI<|G7 F<|aI<|Xy (s:={s with toks:=s.toks+1}) (CH X B) ?_;rw[C];refine bE (a:=aa d)<|aI<|bE<|aI<|aI<|aI<|Xw<|bE<|aI<|Nv<|aI<|G7 D ?_;have J:=RM hl;dsimp only;rw[ao0 ..,J];refine wpAny_updatePart D ?_;refine aI (Xh m (pastItsLine_dict (by rw[Nw,CI];exact au (RL _ _ _ _ _) (au (gZ hz)<|dl rfl))) ?_);exact bE<|hQ _ _ m (pM ..).extBut
end
section
variable{X:Fx}
theorem ab2{G:Prop}(h:Internal.setAttr ok m o x v=aa m')(k:∀c j l,o=.inst c j->ok c x=ae->m[j]?=aa (.aA l)->l.length<100000->m.set j (.aA<|putD x v l)=m'->G):G:=cO h λp B e=>lg e λE e=>cO e λl J e=>dA e λc e=>k p.1 p.2 l B E J c e
theorem O0(W:X.At){K:FC}{m m':J}{s:az}{A:bL}{E:Ar}(x:FS X.C K F ι m env s)(hv:Rl X.C F ι v d)(b:Rl X.C F ι u r)(e:Internal.setAttr X.ok m d (aF n) r=aa m'):
  wpAny X.C.md A (CG v n u) (λZ f=>FS X.C K F ι m' env f) E s:=
 ab2 e λc j l S T V Y em=>by subst S;refine VJ hv.inv λa g N y i o p q h=>rwl i ?_;subst o;refine gl λQ t=>?_;refine bo (x.dat h V) λU M z=>?_;refine cA z.inv λes D G B=>?_;refine e15 (W.set y n T) λH g1 O P g4 R=>?_;refine t ?_;rw[show H=g from pH (bf<|g1.symm.trans p)] at O P g4 R;rw[Ij D G] at M;exact aaP x.i4 ⟨x.st.fz _ _ q,rfl,rfl,M⟩ O P g4 R (B.got n) (au (dn B.length)<|au (eg Y)<|dl rfl) λh' tk I L=>rws em (x.upd h L I (.aA (es:=(ao1 n (wK X.C.w.params n) (.str n<|s.toks+1) u es.toList).toArray) (cv rfl rfl rfl) (aw (λk=>Data.dict (ao1 n (wK X.C.w.params n) (.str n<|s.toks+1) u es.toList).toArray k)<|(aw (PySem.W.putN n es.toList) kX.symm).trans<|QH n _ _ u es.toList)<|cn.putL b B))
end
theorem aU.pop(h:aU C F ι b vs)(q:vs.head?=aa v):∃u a,b=u::a/\Rl C F ι u v/\aU C F ι a vs.tail:=by cases h with|nil=>exact bk q|cons r B=>exact rws (bf q) (fX _ _ rfl r B)
theorem HA(h:gS t=ae):assignEach (t::ts) env=(aq,assign t env)::assignEach ts env:=by induction t using iJ<;>first|rfl|exact dG h
theorem ank{K:FC}{s:az}{A:bL}{M:mS}{r:Fl}{t:Sem Unit}{x:R Env}{f:Env->J->Fl}{Q:Unit->az->Prop}{E:Ar}(h:x≠.H->aD M A t (λZ c=>v3 C K F ι x c) (kG C K F ι env x) s)(hr:ef env x f=r)(hb:r≠.H)(hE:jk C K F ι r E)
  (k:∀e m a b s,f e m=r->Le F a->Pre ι b->FS C K a b m e s->Q () s):aD M A t Q E s:=
 P.mono (h λe=>hb (hr.symm.trans (aw (ef env · f) e)))
  (λZ c B=>match B with|.i V O a b e S T x=>k V O a b c ((aw (ef env · f) e).symm.trans hr) S T x)
  λe c B=>match B with|.i why O a b q S T x=>hE e c (.i why a b O env S T (hr.symm.trans (aw (ef env · f) q)) x)
section
variable{X:Fx}
theorem agD(W:X.At)(h:SE X o d):AT X (.Attribute o n pos) (.attr d<|aF n):=.intro λO R x g B E hQ S=>by rw[ao2 ..];exact P.bind (P.holding (h.cC O R x B E S λu Y a b c f B J M x T=>oi B E λi q e=>P.bind (P.standAt (P.bz (jn (fh (O0 W x T (g.mono J M) q) (λZ j V=>P.of<|G6<|hQ.at J M V e) λZ Z y=>y))))))
theorem agE{K:FC}(O:X.Of K)(f:cI X.lv A K.all)(h:cE (AT X) ts ds):ts.all gS=ae->∀{F:Fz}{ι:lk}{m:J}{env}{s}{c}{vs}{r}{Q}{E},FS X.C K F ι m env s->aU X.C F ι c vs->xW X.ok X.κ env m vs ds=r->r≠.H->ur X.C K F ι r Q->
  aD X.C.md A (assignInOrder ((assignEach ts K.p).map (·.2)) c) Q E s:=by
 induction h with|nil=>exact λZ Z Z Z Z Z Z Z Z Z Z x Z B M S=>P.pure (S.at (.refl _) (.refl _) x B)|@cons t d ts ds h w j=>intro T F ι m env s c vs r Q z x g B M S;rw[HA (Bool.and_eq_true_iff.mp T).1];refine oi B M λv q B=>D6 B M λD G k B=>cP (g.pop q) λu I l n o=>rwl l ?_;exact P.bind (P.holding (h.run O f x n k (λh=>nomatch h) (λZ Z y=>match y with|.i e m L N q V Y x=>aW (R.ok.inj q) λa b=>by subst a b;exact j (Bool.and_eq_true_iff.mp T).2 x (o.mono V Y) B M (S.up V Y)) eL.no))
theorem ab3:ts.all gS=ae->(assignEach ts env).findIdx? (·.1)=ag/\(assignEach ts env).length=ts.length:=by induction ts with|nil=>exact λZ=>⟨rfl,rfl⟩|cons t ts E=>exact λJ=>mh J λB M=>aW (E M) λO P=>by rw[HA B];exact⟨List.findIdx?_cons.trans (aw (zf (·+1)) O),aw (·+1) P⟩
theorem ajl(h:cE (AT X) ts ds)(hl:ts.length=ds.length)(hp:ts.all gS=ae):AT X (.Tuple ts k pos) (.tup ds):=.intro λ{K F ι m env s A v w r Q E} O M x g B J T y=>by rw[arm_assign_Tuple ..];refine oi B J λV q B=>uQ B J λc B=>?_;exact(km q).elim λl e=>e.elim λY R=>aW (ab3 (env:=K.p) hp) λd f=>Hy (G:=λv=>aD _ _ (lQ pos>>=λZ=>unpack v<|assignEach ts K.p) _ _ _) x g (aw (rv m) Y) λa i n j S=>P.bind (P.standAt (P.bz (jn (by rw[d,f,show ts.length=i.size from hl.trans (c.symm.trans<|(aw pJ R.symm).trans S.size.symm)];exact ao3 M.hd ⟨_,j,rfl,n,rfl⟩ λh' u=>agE O M h hp (x.grow (t:=s.toks) (h':=h') λb o e=>u b o (ju<|i7 e) e) ((show l=V from R)▸S) B J T))))
theorem ajm{dt:T}(a:AT X t dt)(h:SE X e d)(b:∀K,X.Of K->swapsWith e (aa t) pos.line K.p=pure aq)(cY:∀K,X.Of K->swappedStores [t] e K.p=pure ag)(hn:gS t=ae):SS X (.Assign [t] e pos) (.aQ dt d):=.intro λ{K F ι m J s A r Q E} O M x B R hQ S=>by rw[G8 ..];refine P.bind<|P.standAt<|P.bz<|cV (b K O) ?_;rw[aB dq];refine P.bind (h.pg O M x B R S λv c f i j k B V Y l g=>P.bz<|cV (cY K O) ?_);rw[HA hn];exact P.bind (ank (a K i j f J k A v c O M l g) B R (S.up V Y) λe m q u w B n o x=>P.pure<|hQ.nx (V.trans n) (Y.trans o) x B)
end
section
namespace BF
theorem ab4:typeLookup (.type "bytes") (dunderI "add")=pure ag:=by rw[jq ..,jr];kernel_rfl
end BF
section
variable{C:Cx}{K:FC}{F F':Fz}{ι av:lk}{m m':J}{env:Env}{s s':az}{A:bL}{E:Ar}
theorem adO(x:FS C K F ι m env s)(hv:Rl C F ι v (.bb a))(d:Rl C F ι u (.bb b))(c:a.length+b.length<=1000):
  wpAny C.md A (inplaceOp .Add v u) (cg C K F ι env (.ok (.bb<|a++b) m)<|Rl C) E s:=by
 refine rE hv λy t O Y=>rwl O (rE d λB T O f=>rwl O ?_);subst Y f;have J:∀P V,cg C K F ι env (.ok (.bb<|cq y++cq B) m) (Rl C) (.bytes (y++B) P) {s with toks:=V}:=λP V=>.mk rfl (x.tok _) (by have:=Rl.bb (C:=C) (F:=F) (ι:=ι) (y++B) P;rwa [show cq (y++B)=cq y++cq B by unfold cq;simp] at this)
 refine iconcat_gives (Cr s y t) (Cr s B T) BF.ab4 KBy.noFill_bytes_add KBy.seq_bytes_add FB.slot_bytes_add FB.entry_bytes_add (FB.args_bytes_add_2 _ _) (KBy.gives_bytes_add (KBy.tooLong_not (by simp[cq] at c;exact au (by assumption) (by decide)))) ?_;by_cases R:y.isEmpty=ae
 ·rw[aC R];have e:=Array.isEmpty_iff.1 R;have M:=J T s.toks;rw[e,Array.empty_append] at M;rw[e];exact M
 ·rw[aB R];by_cases S:B.isEmpty=ae
  ·rw[aC S];have e:=Array.isEmpty_iff.1 S;have M:=J t s.toks;rw[e,Array.append_empty] at M;rw[e];exact M
  ·rw[aB S];exact⟨by simp[cq] at c;rw[aoH,CI];exact au (by assumption) (by decide),J s.toks<|s.toks+1⟩
theorem agF{G:Prop}(e:t5 d j=aa r)(k1:∀a b,d=.int a->j=.int b->.int (a+b)=r->G)(k2:∀a b,d=.bb a->j=.bb b->a.length+b.length<=1000->.bb (a++b)=r->G):G:=by
 induction d using V.casesOn with
 |int a=>induction j using V.casesOn with
  |int b=>exact k1 a b rfl rfl (bf e)
  |_=>exact bk e
 |bb a=>induction j using V.casesOn with
  |bb b=>exact dA e λc q=>k2 a b rfl rfl c q
  |_=>exact bk e
 |_=>exact bk e
theorem S9(x:FS C K F ι m env s)(hv:Rl C F ι v d)(f:Rl C F ι u j)(e:t5 d j=aa r):
  wpAny C.md A (inplaceOp .Add v u) (cg C K F ι env (.ok r m)<|Rl C) E s:=
 agF e (λa b B J h=>by
  subst B J h;exact oq (G:=λv=>wpAny _ _ (inplaceOp .Add v u) _ _ _) hv λt=>oq (G:=λu=>wpAny _ _ (inplaceOp .Add _ u) _ _ _) f λM=>wpAny_iadd_int<|.mk rfl (x.tok _)<|.int _ _) λa b B J c h=>by
  subst B J h;exact adO x hv f c
end
section
variable{X:Fx}
theorem cg.use{K:FC}{env:Env}{s:az}{α β:Type}{d:α}{rel:Fz->lk->β->α->Prop}{v:β}{G:Prop}(h:cg C K F ι env (.ok d m) rel v s)(k:∀c f,Le F c->Pre ι f->FS C K c f m env s->rel c f v d->G):G:=
 match h with|.i J M c f e a b x y=>aW (R.ok.inj e) λB E=>k c f a b (rwl E x)<|rwl B y
theorem alr(hd:(y==("__debug__":Str))=aq):(lQ a>>=λZ=>loadName env y>>=b)=(eval (.Name y a) env>>=b):=by rw[eval_Name env y a hd,bind_assoc ..]
theorem agG(a:X.ro=aq)(hk:X.ns[k]?=aa y)(b:yo (X.sc.names.lookup y)=ae)(hd:(y==("__debug__":Str))=aq)(hc:(y==("__classdict__":Str))=aq)(h:SE X e d):SS X (.AugAssign (.Name y C) .Add e pos) (.tX k d):=.intro λ{K F ι m Y s A r Q E} O S x B J hQ f=>by rw[arm_exec_AugAssign ..,alr hd];refine n9 B J λM g B=>P.bind ((SP hk hd hc).nk O S x (r:=.ok M m) (aw (R.of m) g) (λh=>nomatch h) eL.no λv D q=>q.use λG H T V i j=>?_);exact P.bind (P.holding (h.pg O S i B J (f.up T V) λv I L N U W B k1 k2 l n=>n9 B J λrr o B=>uQ B J λc B=>P.bind (P.standAt (P.bind (P.operating (P.of (fh (S9 l (j.mono k1 k2) n o) (λnv s3 q=>q.use λF3 vT p t u w=>P.bind (P.standAt (P.bind (P.of (Aa u O.make (rwl O.ns hk) c (rwl (O.kd y) b) (.inr<|O.ro.trans a) w λs4 z=>P.pure<|hQ.nx (T.trans<|k1.trans p) (V.trans<|k2.trans t) z B))))) λZ Z y=>y)))))))
end
end
section
variable{X:Fx}
theorem agH(W:X.At)(h:SE X o d)(hi:SE X e j):SS X (.AugAssign (.Attribute o n g) .Add e pos) (.tY d (aF n) j):=.intro λ{K F ι m i s A r Q E} O V x B J hQ Y=>by
 rw[arm_exec_AugAssign_2 ..];refine P.bind (P.standAt (P.bind (h.pg O V x B J Y λN U m' F' av s' B a l2 k b=>n9 B J λl q B=>P.bind (P.holding (P.bind (P.standAt (P.bind (P.of (fh (Rp (E:=E) W k b q) (λp s2 q=>q.use λF2 fL M R t u=>?_) λZ Z y=>y)))))))))
 exact P.bind (P.holding (hi.pg O V t B J (Y.up (a.trans M)<|l2.trans R) λv w m3 F3 vT s3 B S T z C=>n9 B J λrr D B=>n9 B J λm4 G B=>P.bind (P.standAt (P.operating (P.of (fh (S9 z (u.mono S T) C D) (λnv s4 q=>q.use λF5 VW c f H I=>P.bind (P.standAt (P.bz (jn (fh (O0 W H (((b.mono M R).mono S T).mono c f) I G) (λZ s6 L=>P.bz<|G6<|P.pure<|hQ.nx (((a.trans M).trans S).trans c) (((l2.trans R).trans T).trans f) L B) λZ Z y=>y))))) λZ Z y=>y))))))
end
section
variable{X:Fx}{C:Cx}{K:FC}{F F':Fz}{ι av:lk}{m m':J}{env:Env}{s s':az}{A:bL}{E:Ar}
theorem FX.out(x:FX C K F ι m env s)(O:Frs K.bc.heap K.cN K.cy K.out)(hb:b∈jR K.out):F b=ag/\b∉ι/\(∃o,K.bc.heap.get? b=aa o)/\b∉K.cy:=by
 refine uh (O.place hb) λo B Z J E=>lG ?_ (λM=>?_) ⟨o,B⟩ E
 ·induction q:F b using aO with|none=>rfl|some P=>
   refine bZ (x.st.fn b P q) (λA=>?_) λA=>?_
   ·rw[J] at A;exact bk A
   ·rw[B] at A;exact iZ A
 ·refine bZ (x.st.gY b M) (λA=>?_) λA=>?_
  ·exact E A
  ·rw[B] at A;exact iZ A
set_option tactic.hygienic true in
theorem FX.fx(x:FX X.C K F ι m env s)(O:X.Of K):Frs s.heap F ι K.all:=by
 have E:Frs s.heap F ι K.out:=λe he=>by refine gl λP A=>?_;obtain⟨k,L,o,J,R,⟨B,n,S⟩,g4,g⟩:=O.fx e he;have M:=List.mem_filterMap.mpr<|i12 e he J;refine bu (x.st.kq _ _ R M) λi h=>?_;refine fW (x.out O.fx M) λT V Z=>?_;refine A ?_;exact⟨k,L,_,J,h,gM B n S,T,V⟩
 unfold FC.all;split
 ·exact E
 ·rename_i Y;intro e he;rcases sS.mp he with rfl|he
  ·refine gl λP A=>?_;refine bu x.fm λj f=>?_;refine nE f.ns λa B b c d Z=>?_;refine A ?_;exact⟨by rw[O.make.kind];decide,_,a,O.fr (by simpa using Y),c,gM B b d,f.pv.fr,f.pv.ni⟩
  ·exact E e he
theorem FX.slots(x:FX X.C K F ι m env s)(O:X.Of K)(hs:Heap.SlotsOnly (jR K.all) s.heap h'):FX X.C K F ι m env {s with heap:=h'}:=by
 refine bu x.fm λJ f=>?_;have M:∀{b:aH},Pv K.bc F ι b->b∉jR K.out:=λP A=>by refine mB (x.out O.fx A) λZ Z R Z=>?_;refine bu R λo h=>?_;rw[P.new] at h;exact bk h
 refine⟨x.st.chg (t:=s.toks) (λb o e E S=>?_) (λb o B e=>hs.2.2 b o e) λb B=>⟨(x.out O.fx B).1,(x.out O.fx B).2.1⟩,⟨J,f.JO (.refl F) (.refl ι) (λa T V P e=>⟨?_,P⟩) λT e=>⟨hs.2.2 _ _ e,f.pv⟩⟩,x.wd⟩
 ·refine(hs.2.1 b λA=>bZ (D5 O A) (λh=>?_) λh=>?_).trans e
  ·rw[h.1] at E;rcases E with⟨q,h⟩|h|⟨q,h⟩
   ·rw[f.pv.fr] at h;exact bk h
   ·exact f.pv.ni h
   ·rw[f.pv.new] at h;exact bk h
  ·exact S h
 ·refine(hs.2.1 a λA=>bZ (D5 O A) (λh=>?_) λh=>?_).trans e
  ·exact V h.1
  ·exact M P h
theorem FX.grown(x:FX C (K.put D o) F ι m env s)(O:Frs K.bc.heap K.cN K.cy K.out)(hs:dp D s.heap h')(ho:h'.get? D=aa a):FX C (K.put D a) F ι m env {s with heap:=h',toks:=t}:=by
 refine bu x.fm λB f=>?_;have P:=(f.ex D o dE).1;refine⟨x.st.chg (λb o e E M=>hs b o (λq=>?_) e) (λb o A e=>⟨o.slots,hs b o (λq=>?_) e⟩) λb A=>⟨(x.out O A).1,(x.out O A).2.1⟩,⟨B,f.grown hs ho⟩,x.wd⟩
 ·subst q;rcases E with⟨q,h⟩|h|⟨q,h⟩
  ·rw[P.fr] at h;exact bk h
  ·exact P.ni h
  ·rw[P.new] at h;exact bk h
 ·subst q;refine mB (x.out O A) λZ Z J Z=>bu J λo h=>?_;rw[P.new] at h;exact bk h
theorem FX.make(x:FX C K F ι m env s)(O:Frs K.bc.heap K.cN K.cy K.out)(hf:o.isFreed=aq:=by rfl):FX C (K.put s.heap.objs.size o) F ι m env {s with heap:=s.heap.push o}:=bu x.fm λB E=>⟨x.st.chg (t:=s.toks) (λb o e Z Z=>eT _ e) (λb o Z e=>⟨o.slots,eT _ e⟩) λb A=>⟨(x.out O A).1,(x.out O A).2.1⟩,⟨B,E.make (x.st.jz (λb A=>(x.out O A).2.2.2)<|rn s.heap) hf⟩,x.wd⟩
theorem FX.at(x:FX C K F ι m env s)(h:(a,o)∈K.ex):s.heap.get? a=aa o:=bu x.fm λA f=>(f.ex a o h).2.1
theorem Frs.fun:∀{l},Frs h F ι l->h.FunFrames {} l|[],_=>trivial|e::l,x=>by refine gl λE m=>?_;obtain⟨k,L,o,s,A,⟨J,n,B⟩,_⟩:=x e dE;refine m ?_;exact cv k (jP L o s rfl A (λK q=>by rw[B] at q;cases q)) (Frs.fun λe C=>x e<|dT _ C)
theorem ab5(f)(o):(pQ f o).dict=o.dict:=by obtain⟨a,b,c,d⟩:=o;induction c using Xz<;>rfl
theorem jb.als(h:jb C F b f why){T:aH}(d:a.data=.fields ts)(e:3<ts.size):jb C F (pQ (·.setIfInBounds 1 (.ref T)) b) [(T,a)] why:=by
 refine bo h.data λm s A=>?_;have B:1<m.size:=by rcases A with⟨q,_⟩|⟨_,_,_,q,_⟩<;>exact(Array.getElem?_eq_some_iff.mp q).1
 refine⟨?_,by rw[ab5 ..];exact h.dict,_,ze s _,.inr (ee T a ts (by simp[B]) d e rfl)⟩;refine bo h.cls λc E J=>?_;exact i12 c (by rw[aoN ..];exact E) J
theorem jb.tb(h:jb C F b c why)(d:∀a,Kq a c->Kq a tbs'):jb C F b tbs' why:=bo h.data λa m s=>⟨h.cls,h.dict,a,m,d a s⟩
theorem Heap.RN(h)(a)(f):dp a h (h.update a f):=λb o m e=>by rw[Nx _ _<|nQ m];exact e
noncomputable def oO(C:Cx)(K:FC)(F:Fz)(ι:lk)(m:J)(env:Env)(s:az)(e:ar)(why:Nm):Prop:=
 ∃x A T B,e=.ref x/\jb C F A [(T,B)] why/\FX C (K.hU [(x,A),(T,B)]) F ι m env s
theorem oO.fly(h:oO C K F ι m env s e why):sj C K F ι m env s e why:=ui h λx A T M B E J=>BP x A _ B E J
noncomputable abbrev EX(head:ar)(L:aH)(pl:Ld):Obj:={cls:=.type "traceback",dict:=ag,data:=.fields ([head,.ref L,.none,rawInt L,.none]++(if pl.isEmpty then gQ 6 uD else pl)).toArray}
theorem PM(O:X.Of K)(g:cI n A K.all)(d:K.ro=aq){why:Nm}(h1:jb X.C F c w why)(y:FX X.C (K.hU [(x,c)]) F ι m env s)
  (hQ:∀s',oO X.C K F ι m env s' (.ref x) why->Q () s'):
  wpAny X.C.md A (do let a<-frameOf K.p;let pl<-entryPlaceOf K.p.locals hn;let b<-EntryCells.newEntry head a .none (rawInt K.p.locals) .none pl;setField (.ref x) 1 b) Q E s:=by
 have T:X.Of (K.hU [(x,c)]):=O.put _ _;have M:K.all=K.p::K.out:=by unfold FC.all;rw[d];rfl
 have V:=(y.fx T);rw[show(K.hU [(x,c)]).all=K.all from rfl,M] at V;refine aI (wpAny_frameOf_fun (rws M g.fx) V.fun (O.fr d) λB i=>?_);have j:=y.slots T (h':=B) (by rw[show(K.hU [(x,c)]).all=K.all from rfl,M];exact i);refine aI (wpAny_entryPlaceOf λpl eZ=>aI<|sH ?_<|eZ.sizeOk5 _ _ _ _ _);have P:=j.make O.fx (o:=(EX head K.p.locals pl));have Y:=P.at (a:=x) (o:=c)<|dT _ dE;refine bo h1.data λk e l=>?_;have r:1<k.size:=by rcases l with⟨q,_⟩|⟨_,_,_,q,_⟩<;>exact(Array.getElem?_eq_some_iff.mp q).1
 refine CC Y e r<|hQ _ ?_;have R:=ze e (·.setIfInBounds 1 (kY B.objs.size));have S:=pK (pQ (·.setIfInBounds 1 (kY B.objs.size))) Y<|Xq R;refine BQ x _ B.objs.size (EX head K.p.locals pl) rfl (h1.als rfl (by simp only[Nw,d6,jZ,G9];lia)) ?_;refine bu P.fm λz f=>?_;have u:FX X.C ((K.put B.objs.size<|EX head K.p.locals pl).put x c) F ι m env {s with heap:=B.push (EX head K.p.locals pl)}:=by
  refine FX.sub (K:=(K.hU [(x,c)]).put _ _) P (λa o v=>?_) ?_
  ·refine bZ (sS.mp v) (λh=>?_) λh=>?_
   ·exact dT _<|rws h dE
   ·refine bZ (sS.mp h) (λh=>?_) λh=>?_
    ·rw[h];exact dE
    ·exact dT _<|dT _ h
  ·have hn:=f.jf;have J:(B.objs.size::x::K.ex.map (·.1)).Nodup:=hn;refine(?_:(x::B.objs.size::K.ex.map (·.1)).Nodup);rw[mW,mW,sS,not_or] at J⊢;exact cv ⟨nQ J.1.1,J.2.1⟩ J.1.2 J.2.2
 exact u.grown (t:=s.toks) (O.fx) (Heap.RN _ _ _) S
end
section
variable{X:Fx}{C:Cx}{K:FC}{F F':Fz}{ι av:lk}{m m':J}{env:Env}{s s':az}{A:bL}{E:Ar}{n:Nat}
theorem ab6(h:o.data=.fields vs):(pQ f o).isFreed=aq:=Xq<|ze h _
theorem FX.tb(O:Frs K.bc.heap K.cN K.cy K.out){x T:aH}(y:FX C (K.hU [(x,c),(T,b)]) F ι m env s)(d:b.data=.fields ts):FX C (K.hU [(x,c),(T,pQ f b)]) F ι m env {s with heap:=s.heap.update T (pQ f)}:=by
 have E:=y.at (a:=T) (o:=b)<|dT _ dE;have swap:∀{b}{s},FX C (K.hU [(x,c),(T,b)]) F ι m env s->FX C ((K.put x c).put T b) F ι m env s:=λ{b s} y=>by
  refine bu y.fm λJ g=>FX.sub (K:=K.hU [(x,c),(T,b)]) y (λa o A=>?_) ?_
  ·refine bZ (sS.mp A) (λh=>?_) λh=>?_
   ·exact dT _<|rws h dE
   ·refine bZ (sS.mp h) (λh=>?_) λh=>?_
    ·rw[h];exact dE
    ·exact dT _<|dT _ h
  ·have n:(x::T::K.ex.map (·.1)).Nodup:=g.jf;refine(?_:(T::x::K.ex.map (·.1)).Nodup);rw[mW,mW,sS,not_or] at n⊢;exact cv ⟨nQ n.1.1,n.2.1⟩ n.1.2 n.2.2
 have B:=(swap y).grown (t:=s.toks) O (Heap.RN _ T<|pQ f)<|pK _ E<|ab6 d;refine bu B.fm λJ g=>FX.sub (K:=(K.put x c).put T _) B (λa o A=>?_) ?_
 ·refine bZ (sS.mp A) (λh=>?_) λh=>?_
  ·exact dT _<|rwl h dE
  ·refine bZ (sS.mp h) (λh=>?_) λh=>?_
   ·rw[h];exact dE
   ·exact dT _<|dT _ h
 ·have n:(T::x::K.ex.map (·.1)).Nodup:=g.jf;refine(?_:(x::T::K.ex.map (·.1)).Nodup);rw[mW,mW,sS,not_or] at n⊢;exact cv ⟨nQ n.1.1,n.2.1⟩ n.1.2 n.2.2
theorem FX.one(y:FX C (K.hU ((x,b)::c)) F ι m env s):FX C (K.hU [(x,b)]) F ι m env s:=by
 refine bu y.fm λB g=>FX.sub (K:=K.hU ((x,b)::c)) y (λa o n=>?_) ?_
 ·refine bZ (sS.mp n) (λh=>?_) λh=>?_
  ·rw[h];exact dE
  ·exact dT _<|MD _ h
 ·have A:=g.jf;exact List.Nodup.sublist (ME _<|List.Sublist.cons_cons _<|ao4 _ _) A
theorem I2(O:X.Of K)(d:cI n A K.all)(b:K.ro=aq)(y:sj X.C K F ι m env s e why)(hQ:∀s',oO X.C K F ι m env s' e why->Q () s'):
  wpAny X.C.md A (noteFrame e K.p) Q E s:=by
 have j:=y;clear y;refine nE j λx R D k B y=>?_;subst k;have S:=y.at (a:=x) (o:=R) dE;refine bo (id B.data) λG V l=>?_;unfold noteFrame;simp only[O.fr b];rcases l with⟨q,rfl⟩|⟨T,J,Y,q,M,g,rfl⟩
 ·refine aI<|jX S V q ?_;rw[aB (by decide)];exact PM O d b B y hQ
 ·refine aI<|jX S V q ?_;have i:=y.at (a:=T) (o:=J)<|dT _ dE;rw[aC (show(kY T !=uD)=ae from by simp)];refine aI (jX i M (x:=Y[3]) (by simp[g]) ?_);by_cases c:(Y[3]==rawInt K.p.locals)=ae
  ·rw[aC c];exact bE<|hQ s<|BQ x R T J rfl B y
  ·rw[aB c];refine aI<|CC i M g ?_;have r:=FX.tb O.fx (f:=(·.setIfInBounds 3 uD)) y M;exact PM O d b (B.tb (tbs':=[(T,pQ (·.setIfInBounds 3 uD) J)]) λH t=>by
    refine bZ t (λP=>aW P λZ h=>?_) λP=>jQ P λI L u v w z g4=>?_
    ·exact BR h
    ·cases g4
     exact .inr (ee T _ _ v (ze w _) (by simpa using z) rfl)) r.one hQ
theorem DE(O:Frs K.bc.heap K.cN K.cy K.out)(y:oO C K F ι m env s e why)(hQ:∀s',oO C K F ι m env s' e why->Q () s'):
  wpAny M A (setFlight e r) Q E s:=by
 have R:=y;clear y;refine ui R λx B T S V J y=>?_;subst V;have X:=y.at (a:=x) (o:=B) dE;have Y:=y.at (a:=T) (o:=S)<|dT _ dE;refine bo (id J.data) λt b c=>bZ c (λn=>aW n λq h=>?_) λn=>jQ n λd f u q P g h=>?_
 ·exact BR h
 ·cases h
  refine aI<|jX X b q ?_;rw[aC (show(kY T !=uD)=ae from by simp)];refine CC Y P g (hQ _ (BQ x B T _ rfl (J.tb λv i=>bZ i (λn=>aW n λZ h=>?_) λn=>jQ n λd f j k l p g4=>?_)<|FX.tb O y P))
  ·exact BR h
  ·cases g4
   exact .inr (ee T _ _ k (ze l _) (by simpa using p) rfl)
theorem aaQ(O:X.Of K)(a:cI n A K.all)(b:K.ro=aq)(y:sj X.C K F ι m env s e why)(hQ:∀s',oO X.C K F ι m env s' e why->Q () s'):
  wpAny X.C.md A (leaving K.p e) Q E s:=by
 exact aI (I2 O a b y λJ B=>DE O.fx B hQ)
theorem oO.head(y:oO C K F ι m env s e why)(hQ:∀T,Q (.ref T) s):wpAny M A (field e 1) Q E s:=by
 have B:=y;clear y;refine ui B λx J T X O P y=>?_;refine rwl O ?_;have R:=y.at (a:=x) (o:=J) dE;refine bo (id P.data) λY S V=>bZ V (λn=>aW n λq h=>?_) λn=>jQ n λb c d q f g h=>?_
 ·exact BR h
 ·exact jX R S q<|hQ _
end
section
variable{X:Fx}
inductive uu(C:Cx)(K:FC)(F:Fz)(ι:List aH)(r:Fl)(x:ar)(s':az):Prop|i(why:Nm)(F':Fz)(av:List aH)(m':J)(e:Env)(h1:Le F F')(h2:Pre ι av)(q:r=.ex why e m')(fl:oO C K F' av m' e s' x why):uu C K F ι r x s'
section
variable{C:Cx}{K:FC}{F F':Fz}{ι av:lk}{r:Fl}{s:az}{D:aH}{o:Obj}{E:Ar}{Q:nR->az->Prop}{A:bL}{M:mS}
theorem uu.back(h1:Le F F')(h2:Pre ι av)(h:uu C K F' av r x s):uu C K F ι r x s:=
 match h with|.i why o A m e a b c d=>.i why o A m e (h1.trans a) (h2.trans b) c d
theorem lL.drop(h:lL C (K.put D o) F ι r x s):lL C K F ι r x s:=
 match h with|.i why A B m e a b c d=>.i why A B m e a b c d.drop
theorem gN.done(h:gN C (K.put D o) F ι r f s):gN C K F ι r f s:=
 match h with|.i A B m e a b c d=>.i A B m e a b c.done.1 d
theorem jk.put(h:jk C K F ι r E):jk C (K.put D o) F ι r E:=λe s y=>h e s y.drop
theorem alv(h:x≠.H->aD M A t (gN C K F ι x) (lL C K F ι x) s)(hr:Fl.turn x f=r)(hb:r≠.H)(hE:jk C K F ι r E)
  (k:∀m e F' av s,f e m=r->Le F F'->Pre ι av->FS C K F' av m e s->Q .next s)(a:∀s,gN C K F ι r .next s->Q .brk s)(b:∀v s,gN C K F ι r (.ret v) s->Q (.ret v) s):aD M A t Q E s:=
 P.mono (h λe=>hb (hr.symm.trans (aw (Fl.turn · f) e)))
  (λS o O=>match O with|.i F' av B e D J R T=>T.ind (G:=λx S=>Fl.turn x f=r->Q S o) (λhr=>k B e F' av o hr D J R) (λhr=>a o<|.i F' av B e D J R<|rws hr .nx) (λv d g hr=>b v o<|.i F' av B e D J R<|rws hr<|.rt g) hr)
  λe o O=>match O with|.i why F' av B V D J q x=>hE e o (.i why F' av B V D J (hr.symm.trans (aw (Fl.turn · f) q)) x)
theorem ajn(h:x≠.H->aD M A t (gN C K F ι x) (lL C K F ι x) s)(hr:Fl.vn x f=r)(hb:r≠.H)
  (k:∀m e F' av s,f e m=r->Le F F'->Pre ι av->FS C K F' av m e s->Q .next s)(a:∀s,gN C K F ι r .next s->Q .brk s)(b:∀v s,gN C K F ι r (.ret v) s->Q (.ret v) s):aD M A t Q E s:=
 P.mono (h λe=>hb (hr.symm.trans (aw (Fl.vn · f) e)))
  (λS o O=>match O with|.i F' av B e D J R T=>T.ind (G:=λx S=>Fl.vn x f=r->Q S o) (λhr=>k B e F' av o hr D J R) (λhr=>a o<|.i F' av B e D J R<|rws hr .nx) (λv d g hr=>b v o<|.i F' av B e D J R<|rws hr<|.rt g) hr)
  λe o O=>match O with|.i why F' av B V D J q x=>aT (hr.symm.trans (aw (Fl.vn · f) q)) hb
end
theorem aaR{K:FC}{r:Fl}{e:ar}{n:Nat}{E:Ar}(O:X.Of K)(g:cI n A K.all)(h:X.ro=aq)(y:lL X.C K F ι r e s){Q:Unit->az->Prop}(hQ:∀f,uu X.C K F ι r e f->Q () f):
  aD X.C.md A (do noteFrame e K.p;theTreesLotGoes e) Q E s:=
 match y with|.i why J M m B a b c d=>P.of (aI (I2 O g (O.ro.trans h) d λf R=>wpAny_theTreesLotGoes<|hQ f<|.i why J M m B a b c R))
theorem RO{K:FC}{r:Fl}{c:Code}{Q:nR->az->Prop}{E:Ar}(O:X.Of K)(hQ:mF X.C K F ι r Q)(hE:jk X.C K F ι r E)
  (h:∀R:gP->az->Prop,(∀f g,gN X.C K F ι r f g->R (.ok f) g)->(∀e g,uu X.C K F ι r e g->R (.error e) g)->cM X.C.md A c R s):aD X.C.md A (runOwn c K.p) Q E s:=by
 refine P.onRaise (P.run (h _ hQ λe g J=>match J with|.i why M S m B a b c d=>P.of (aI (d.head λT=>?_))));rw[aB (by simp)];exact DE O.fx d λV y=>hE _ _<|.i why M S m B a b c y.fly
theorem ajo{E:Ar}(b:s.heap.get? I=aa io)(hc:io.cls=.type n)(hn:(["enumerate","zip","dict_itemiterator","dict_reverseitemiterator","odict_iterator","itertools.zip_longest","itertools.pairwise"].contains n)=aq)
  {Q:Unit->az->Prop}(hQ:Q () s):wpAny M A (letOwnedTupleGo t (.ref I) u) Q E s:=by
 have J:∀B k p,wpAny M A (letOwnedTupleGo (.Tuple B k p) (.ref I) u) Q E s:=λB k p=>by
  induction u using wL with
  |ref a=>
   refine aI<|sM b ?_;rw[hc];induction io.data using Xz with
   |fields O=>
    dsimp only;rw[hn,Ha ..,aB dq];exact bE hQ
   |_=>exact bE hQ
  |_=>exact bE hQ
 induction t using iJ with
 |Tuple B k p=>exact J B k p
 |List B p=>exact J B 0 p
 |_=>exact bE hQ
theorem ku.kind(h:ku F v d kd n i o):∃x:String,o.cls=.type x/\(["enumerate","zip","dict_itemiterator","dict_reverseitemiterator","odict_iterator","itertools.zip_longest","itertools.pairwise"].contains x)=aq:=by
 induction d using V.casesOn with
 |tup _=>exact i12 _ h.1 (dc rfl)
 |lst _=>exact i12 _ h.1 (dc rfl)
 |bb _=>exact i12 _ h.1 (dc rfl)
 |bar _=>exact i12 _ h.1 (dc rfl)
 |aA _=>refine iG h λa B E J Z Z Z Z h Z=>?_;exact i12 _ h<|dc rfl
 |ref _=>
  induction kd using aS with
  |true=>exact i12 _ ((h.1 rfl).1) (dc rfl)
  |false=>exact i12 _ ((h.2 rfl).1) (dc rfl)
 |dW a b c=>have h:=h;subst h;exact i12 _ rfl<|dc rfl
 |_=>exact h.elim
theorem ab7{K:FC}{R:gP->az->Prop}(hR:R (.ok .next) s):cM X.C.md A (.block [] K.p) R s:=by refine P.ll rfl ?_;rw[wJ rfl rfl];refine(?_:aD _ _ (do return Fin.done (<-(execs [] K.p).onRaise (λx=>do noteFrame x K.p;theTreesLotGoes x))) _ _ s);exact P.bind<|P.onRaise<|P.of<|CD<|P.pure hR
theorem QI{K:FC}{r:Fl}{c:Code}{x:Sem Fin}{R:gP->az->Prop}(O:X.Of K)(g:cI X.lv A K.all)(i:X.ro=aq)(hc:qE c=ae)(j:X.C.md.den c=x.onRaise (λx=>do noteFrame x K.p;theTreesLotGoes x))(k:A.under c=A)(hE:∀e d,uu X.C K F ι r e d->R (.error e) d)
  (h:∀(Q:Fin->az->Prop)(E:Ar),(∀f s,R (.ok f) s->Q (.done f) s)->(∀c s,c.quiet=ae->cM X.C.md A c R s->Q (.again c) s)->jk X.C K F ι r E->aD X.C.md A x Q E s):cM X.C.md A c R s:=by
 refine P.ll hc ?_;rw[k,j];exact P.onRaise (h _ _ (λZ Z y=>y) (λZ Z a b=>⟨a,b⟩) λe d y=>aaR O g i y λB J=>hE e B J)
theorem adP{t:bj}{dt:T}(ht:AT X t dt)(hB:gO X body db)(cm:X.ro=aq){K0:FC}{A:bL}(O:X.Of K0)(g:cI X.lv A K0.all){v:ar}{d:V}{kd:Bool}{nn:Nat}{I:aH}{F0:Fz}{BZ:lk}(hv:Rl X.C F0 BZ v d){R:gP->az->Prop}{r:Fl}(hb:r≠.H):
  ∀(k:Nat){F:Fz}{ι:lk}{m:J}{env:Env}{s:az}{io:Obj},k<=nn->Le F0 F->Pre BZ ι->FS X.C (K0.put I io) F ι m env s->ku F v d kd nn (nn-k) io->
   ES (λe m v=>mm X.ok X.κ e m v dt) (λe m=>eC X.ok X.κ e m db) d kd nn k env m=r->
   (∀f c,gN X.C K0 F ι r f c->R (.ok f) c)->(∀e c,uu X.C K0 F ι r e c->R (.error e) c)->
   cM X.C.md A (.forLoop t (.ref I) body [] K0.p) R s:=by
 have vD:∀{k:Nat},k+1<=nn->nn-(k+1)+1=nn-k:=λ{k} h=>(Nq h).symm.trans<|aoV nn 1 k;intro k;induction k with
 |zero=>
  intro F ι m env s io S Y j x n o hR w;refine QI O g cm rfl rfl (wJ rfl rfl) w λQ E hd ha z=>n9 o hb λl M e=>P.bind<|P.standAt<|P.bind<|P.noRaise<|P.of ?_;exact DD x g.hd (hv.mono Y j) M x.done.2.1 n (λu dv U tk D z Z Z Z Z=>nomatch(Co<|dn (HU M).2).symm.trans z)
   (λU Z G=>P.pure<|ha _ _ rfl<|ab7<|hR .next _<|.i F ι m env (.refl F) (.refl ι) (x.Ky (t:=s.toks) G)<|rws e .nx) (dR _)
 |succ k ih=>
  intro F ι m env s io S Y j x n o hR w;refine QI O g cm rfl rfl (wJ rfl rfl) w λQ E hd ha z=>n9 o hb λl M e=>n9 e hb λvi B0 e=>P.bind (P.standAt (P.bind (P.noRaise (P.of (DD x g.hd (hv.mono Y j) M x.done.2.1 n (λu dv U tk D B1 L G W yq=>?_) (λU he Z=>aT he<|ju<|Nat.sub_lt (cL (qY k) S)<|qY k)<|gR ..)))));have x2:=x.grown (t:=tk) G W;refine bo yq.kind λkn kc kno=>P.bz<|ajo (io:=D) W kc kno ?_;have L:=bf (B1.symm.trans B0)▸L;refine fw (Rm e hb) λe1 m1 ea e=>P.bind (ht.run (K:=K0.put I D) (O.put _ _) g x2 L ea (λh=>nomatch h) (λZ s3 y=>match y with|.i e3 m3 F3 vT q B l2 x3=>aW (Internal.R.ok.inj q) λa b=>?_) .no);subst a b;have Fw:=vD S▸yq.mono B;clear n yq x x2 G W B1 L ea B0 M o;exact P.bind (alv (hB (K0.put I D) F3 vT m1 e1 s3 A (O.put _ _) g x3) e hb (z.up B l2).put
   (λm4 e4 F4 LR s4 e N k2 x4=>P.pure (ha _ _ rfl (ih (Xx S) ((Y.trans B).trans N) ((j.trans l2).trans k2) x4 (Fw.mono N) e (λf c y=>hR f c<|y.back (B.trans N)<|l2.trans k2) λe c y=>w e c<|y.back (B.trans N)<|l2.trans k2)))
   (λs4 y=>P.pure<|hd _ _<|hR _ _<|y.done.back B l2) λu s4 y=>P.pure<|hd _ _<|hR _ _<|y.done.back B l2)
theorem ajp{dt:T}(c:X.ro=aq)(f:AT X t dt)(h:SE X e d)(hs:∀env x,foldedSetIterable e env x=pure x)(g:gO X body i):SS X (.For t e body [] pos) (.dN dt d i):=.intro λ{K F ι m env s A r Q E} O S x B M j J=>by rw[arm_exec_For ..];exact P.bind (P.standAt (P.bind (h.pg O S x B M J λv u w y z C B V Y a b=>P.bz (cV (hs _ _) (P.bind (P.standAt (n9 B M λl hit B=>P.bind (P.holding (P.of (OZ a b hit λk n p=>RO O (j.up V Y) (J.up V Y) λR q J=>adP f g c O S b M l.length (dR _) (.refl _) (.refl _) (a.make (o:=k) p) (rwl (k7 l.length) n) B q J))))))))))
theorem SB.val{K:FC}(h:SB X e d)(O:X.Of K)(g:cI X.lv A K.all)(x:FS X.C K F ι m env s)(i:bI X.ok X.κ env m d=.ok (.bool c) m')
  (k:∀a b s,Le F a->Pre ι b->FS X.C K a b m' env s->Q c s):aD X.C.md A (isTrue e K.p<|eval e K.p) Q j s:=
 h.cC O g x (f:=λv m=>.ok v m) (aw (λr=>R.bind (fc r) λv m=>.ok v m) i) (λh=>nomatch h) .no λc S a b B e E J x=>aW (R.ok.inj e) λM P=>LQ (Ii M)<|k a b B E J<|rws P x
theorem aaS{R:gP->az->Prop}(hc:qE c=ae)(d:X.C.md.den c=x.onRaise (λx=>do noteFrame x p;theTreesLotGoes x))(e:A.under c=A)
  (h:∀(Q)(E),(∀f s,R (.ok f) s->Q (.done f) s)->(∀c s,c.quiet=ae->cM X.C.md A c R s->Q (.again c) s)->aD X.C.md A x Q E s):cM X.C.md A c R s:=by
 refine P.ll hc ?_;rw[e,d];exact P.onRaise (h _ _ (λZ Z y=>y) λZ Z a b=>⟨a,b⟩)
theorem aaT{dt:E}(h:SB X t dt)(j:gO X body l){K0:FC}{A:bL}(O:X.Of K0)(d:cI X.lv A K0.all){R:gP->az->Prop}{r:Fl}(hb:r≠.H):
  ∀(k:Nat){F}{ι}{m}{env}{s},FS X.C K0 F ι m env s->
   D4 (λe m=>bI X.ok X.κ e m dt) (λe m=>eC X.ok X.κ e m l) k env m=r->
   (∀f b,gN X.C K0 F ι r f b->R (.ok f) b)->
   cM X.C.md A (.whileLoop t body [] K0.p) R s:=by
 intro k;induction k with
 |zero=>exact λZ J=>aT J.symm hb
 |succ k n=>
  intro F ι m env s x J hR;refine aaS (p:=K0.p) rfl rfl (wJ rfl rfl) λQ E hd o=>fw (Rm J hb) λa M q e=>bo (aiC e hb) λc v e=>P.bind (h.val O d x (q.trans (aw (Internal.R.ok · M) v)) λS T V B l2 Y=>?_)
  match c,e with
  |true,e=>exact P.bind (ajn (j K0 S T M env V A O d Y) e hb
    (λG I K L g e w z D=>P.pure (o _ _ rfl (n D e λf b y=>hR f b<|y.back (B.trans w)<|l2.trans z)))
    (λg y=>P.pure<|hd _ _<|hR _ _<|y.back B l2) λu g y=>P.pure<|hd _ _<|hR _ _<|y.back B l2)
  |false,e=>exact P.bind (P.of<|CD<|P.pure<|hd _ _<|hR .next V<|.i S T M env B l2 Y<|rws e .nx)
theorem adQ{dt:E}(a:SB X t dt)(b:gO X body c):SS X (.While t body [] pos) (.uY dt c):=.intro λ{K F ι m J s A r Q E} O M x S T V B=>by rw[arm_exec_While ..];exact P.bind (P.standAt (RO O V B λR Y B=>aaT a b O M T 1000 x S Y))
end
end
section
open PySem PySem.Calls PySem.W PyProof.Rows
theorem N5{α:Type}{S T:List (Str×α)}:(S++T).lookup n=(S.lookup n).or (T.lookup n):=by induction S with|nil=>rfl|cons p S B=>rw[zb,pP,pP];induction n==p.1 using aS with|true=>rfl|false=>exact B
theorem Du{α:Type}{ps:List Str}:∀{vs:List α}{i:Nat},ps.Nodup->ps[i]?=aa n->(ps.zip vs).lookup n=vs[i]?:=by induction ps with|nil=>exact λZ h=>bk h|cons p ps E=>intro vs i B h;induction vs using dz with|nil=>rfl|cons v vs=>rw[XB,pP];induction i using qX with|zero=>rw[show(n==p)=ae from bO.mpr (bf h).symm];rfl|succ i=>rw[show(n==p)=aq from beq_eq_false_iff_ne.mpr λe=>(mW.mp B).1<|rws e<|jW h];exact E (mW.mp B).2 h
noncomputable def vq(S:List (Str×ar))(p:Str×ar):List (Str×ar):=if (S.lookup p.1).isNone then S++[p] else S
theorem Z8{S:List (Str×ar)}:(vq S p).lookup n=(S.lookup n).or ([p].lookup n):=by unfold vq;induction B:S.lookup p.1 using aO with|none=>exact N5|some u=>rw[pP];induction E:n==p.1 using aS with|true=>exact(aw (Hb · S)<|bO.mp E).trans (B.trans (show aa u=(S.lookup n).or (aa p.2) by rw[bO.mp E,B];rfl))|false=>exact(ao5 ..).symm
theorem Z9{l:List (Str×ar)}:∀{S},(l.foldl vq S).lookup n=(S.lookup n).or (l.lookup n):=by induction l with|nil=>exact(ao5 ..).symm|cons p l B=>intro S;rw[show p::l=[p]++l from rfl,N5,<-Option.or_assoc,<-Z8];exact B
theorem aaU{full:Ld}{S:List (Str×ar)}{ps:List Str}:∀{k},ps.length+k=full.length->(∀i n,ps[i]?=aa n->S.lookup n=full[k+i]?)->(ps.filterMap λn=>(S.lookup n).map (n,·))=ps.zip (full.drop k):=by induction ps with|nil=>exact λZ Z=>rfl|cons p ps J=>intro k B h;have E:=B▸Nat.lt_add_of_pos_left (qY _);rw[aof,h 0 p rfl,XC ..,cT E,CJ E,XB];exact aw ((p,full[k])::·) (J (k:=k+1) ((Ny _ _).symm.trans B) λi n M=>(h (i+1) n M).trans (aw (full[·]?) (Ny _ _).symm))
theorem agI{ps:List Str}{vals dv:Ld}(d:ps.Nodup)(a:vals.length<=ps.length)(b:ps.length-vals.length<=dv.length)(e:dv.length<=ps.length):
  (ps.filterMap λn=>((((ps.drop<|ps.length-dv.length).zip dv).foldl vq<|ps.zip vals).lookup n).map (n,·))=ps.zip (vals++dv.drop (dv.length-(ps.length-vals.length))):=by
 refine(aaU (full:=vals++dv.drop (dv.length-(ps.length-vals.length))) (k:=0) (by rw[d6,yZ,XD b,CK a];rfl) λi n B=>?_).trans rfl;rw[Z9,Du d B,fQ ..];by_cases c:i<vals.length
 ·rw[sI c,cT c];rfl
 ·have E:=(List.getElem?_eq_some_iff.mp B).1;have c:=jV c;have J:ps.length-dv.length<=i:=au (Nat.sub_le_iff_le_add.mpr (by rw[jY ..];exact Nat.sub_le_iff_le_add.mp b)) c;rw[nS c,Co c,Nz,Du (d.sublist<|List.drop_sublist _ _) (i:=i-(ps.length-dv.length)) (by rw[Nz,CK J];exact B)];exact aw (dv[·]?) (Nat.eq_sub_of_add_eq (by rw[sF ..,jY (dv.length-_) ..,Nat.sub_add_sub_cancel e b,XD a,CK c])).symm
theorem adR{ps:List Str}{vals dv:Ld}(a:ps.Nodup)(b:ps.length-vals.length<=dv.length):((ps.take<|ps.length-dv.length).filter λn=>(Hb n<|ps.zip vals).isNone)=[]:=by refine List.filter_eq_nil_iff.mpr λn E=>bu (List.mem_iff_getElem?.mp E) λi B=>?_;replace B:=(NA)▸B;refine lg B λJ B=>?_;rw[Du a B,cT (cL J (Nat.sub_le_iff_le_add.mpr (by rw[jY ..];exact Nat.sub_le_iff_le_add.mp b)))];exact dq
theorem ab8{ps:List Str}{vals dv D:Ld}(a:D=dv)(b:ps.Nodup)(c:ps.length-vals.length<=dv.length):((ps.take<|ps.length-D.length).filter λn=>(Hb n<|ps.zip vals).isNone)=[]:=rwl a<|adR b c
theorem adS(b:D=dv)(c:ps.Nodup)(a:vals.length<=ps.length)(d:ps.length-vals.length<=dv.length)(e:dv.length<=ps.length):
  ((ps++[]).filterMap λn=>((((ps.drop<|ps.length-D.length).zip D).foldl vq<|ps.zip vals).lookup n).map (n,·))=ps.zip (vals++dv.drop (dv.length-(ps.length-vals.length))):=by
 refine rwl b ?_;rw[gC ..];exact agI c a d e
theorem aaV{l:List (Str×ar)}:∀{S},(forIn l S λx LX=>if (Hb x.1 LX).isNone=ae then pure (wH<|LX++[(x.1,x.2)]) else pure (wH LX):Sem (List<|Str×ar))=pure (l.foldl vq S):=by
 induction l with|nil=>exact rfl|cons p l B=>
  intro S;rw[wI ..,Xc];unfold vq;by_cases c:(Hb p.1 S).isNone=ae
  ·rw[aC c,aC c,pure_bind ..];exact B
  ·rw[aB c,aB c,pure_bind ..];exact B
theorem I3{E:Ar}{α:Type}{Q:α->az->Prop}{c:Prop}[Decidable c]{x y:Sem α}(h:¬c)(k:wpAny M A y Q E s):wpAny M A (ite c x y) Q E s:=rwl (aB h) k
theorem O1{s:az}{r:Option (Array ar)}(hp:fd.params.posonlyargs=[])(ha:fd.params.args.map (·.arg)=ps)(hv:fd.params.vararg=ag)(hk:fd.params.kwonlyargs=[])(b:fd.params.kwarg=ag)
  (c:ps.Nodup)(a:vals.length<=ps.length)(d:ps.length-vals.length<=dv.length)(e:dv.length<=ps.length)(hr:(r.getD #[]).toList=dv)
  (hd:∀(M:mS)(A:bL)(E)(Q),Q r s->wpAny M A (seqItems? fd.defaults) Q E s):
  BindsTo s fd ⟨vals,[]⟩ (ps.zip<|vals++dv.drop (dv.length-(ps.length-vals.length))):=by
 obtain⟨name,qual,⟨R,J,S,T,kd,V,Y⟩,body,scope,gl,f,g,i,O,j,k,code,m,n⟩:=fd;dsimp only at hp ha hv hk b hd;subst hp ha hv hk b;intro M A E Q P;have B:((r.getD #[]).toList).drop ((r.getD #[]).toList.length-(J.map (·.arg)).length)=dv:=by rw[hr,Nat.sub_eq_zero_of_le e];rfl
 exact aI (bE (aI (hd M A E _ (I3 (λh=>aT a<|CL<|of_decide_eq_true (Bool.and_eq_true_iff.mp h).1) (I3 (λh=>dq ((aw (λl:List Str=>!l.isEmpty)<|ab8 B c d).symm.trans h)) (aI (cV aaV (aI (bE (I3 (λh=>dq h) (bE (Eq.mpr (aw (Q · s)<|adS B c a d e) P))))))))))))
end
section
open PySem PySem.Calls PySem.W
set_option genCtorIdx true in
structure Cc where
 ns:List Nm
 sc:d5
 gl:Nm->Bool
 ro:Bool
 top:Bool
 hint:Nat->Nat
noncomputable def eU(x:Nm):List Nm->Nat->Option Nat|[],_=>ag|y::r,k=>if x=y then aa k else eU x r (k+1)
noncomputable def sz{P:bj->Type}(d:∀e,P e)(j:∀v k p,P<|.Constant v k p)(h:∀e x p,P<|.Attribute e x p)(sub:∀e i p,P<|.Subscript e i p)(nm:∀x p,P<|.Name x p)(m:∀l p,P<|.List l p)(n:∀l k p,P<|.Tuple l k p)(sl:∀a b c p,P<|.Slice a b c p)(o:∀f l k p,P<|.Call f l k p)(q:∀e g s p,P<|.ListComp e g s p)(e:bj):P e:=match e with|.Constant v k p=>j v k p|.Attribute e x p=>h e x p|.Subscript e i p=>sub e i p|.Name x p=>nm x p|.List l p=>m l p|.Tuple l k p=>n l k p|.Slice a b c p=>sl a b c p|.Call f l k p=>o f l k p|.ListComp e g s p=>q e g s p|e=>d e
noncomputable def e7(e:bj):Bool:=e.ctorIdx==22
noncomputable def uR(e:bj):Bool:=e.ctorIdx==26
noncomputable def isCall(e:bj):Bool:=e.ctorIdx==16
def Er(x:Nm):Option BI:=
 if x=aF (gG .len) then aa .len else if x=aF (gG .range) then aa .range else if x=aF (gG .sum) then aa .sum else if x=aF (gG .min) then aa .min else if x=aF (gG .max) then aa .max
 else if x=aF (gG .sorted) then aa .sorted else if x=aF (gG .bytes) then aa .bytes else if x=aF (gG .bytearray) then aa .bytearray else if x=aF (gG .tuple) then aa .tuple else if x=aF (gG .isinstance) then aa .isinstance else ag
noncomputable def Fy:Operator->Option BO|.Add=>aa .add|.Sub=>aa .sub|.Mult=>aa .mul|.FloorDiv=>aa .fdiv|.Mod=>aa .mod|.Pow=>aa .pow|.LShift=>aa .shl|.RShift=>aa .shr|.BitAnd=>aa .band|.BitOr=>aa .bor|.BitXor=>aa .bxor|_=>ag
noncomputable def Bz:CmpOp->CO|.Eq=>.eq|.NotEq=>.ne|.Lt=>.lt|.LtE=>.le|.Gt=>.gt|.GtE=>.ge|.Is=>.is|.IsNot=>.tM|.In=>.mem|.NotIn=>.lu
noncomputable def kd(sc:d5)(x:Str):Option G5:=sc.names.lookup x
def dunder(x:Nm):Bool:=x==aF "__debug__"||x==aF "__classdict__"
def strOf:(e:bj)->Option {w:Str//∃k p,e=.Constant (.str w) k p}:=sz (P:=λe=>Option {w:Str//∃k p,e=.Constant (.str w) k p}) (λZ=>ag) (λv k p=>match v with|.str w=>aa ⟨w,k,p,rfl⟩|_=>ag) (λZ Z Z=>ag) (λZ Z Z=>ag) (λZ Z=>ag) (λZ Z=>ag) (λZ Z Z=>ag) (λZ Z Z Z=>ag) (λZ Z Z Z=>ag) λZ Z Z Z=>ag
def litStr(e:Option bj):Option {x:Str//∃k p,e=aa (.Constant (.str x) k p)}:=match e with|none=>ag|some e=>(strOf e).map λw=>⟨w.1,w.2.elim λk h=>h.elim λp h=>gM k p<|aw aa h⟩
def tG(e:Option bj):Bool:=(litStr e).isSome
def gn(e:Option bj):Nm:=(litStr e).elim [] λx=>aF x.1
theorem alw(h:tG e=ae):∃x k p,e=aa (.Constant (.str x) k p)/\gn e=aF x:=
 (Option.isSome_iff_exists.mp h).elim λy B=>y.2.elim λk q=>q.elim λp q=>K9 y.1 k p q (aw (λo:Option {x:Str//∃k p,e=aa (.Constant (.str x) k p)}=>o.elim [] λx=>aF x.1) B)
noncomputable def vE:Option bj->bj|some e=>e|none=>default
noncomputable def frees(sc:d5):List Str:=sc.names.filterMap λ(n,k)=>if k=.free then aa n else ag
def xC(c:Cc)(sc:d5)(a:Str):Bool:=
 (sc.kind==.function)&&(c.sc.kind==.function)&&!c.ro&&sc.names.all (λx=>x.2 !=.cell)&&sc.names.all (λx=>x.2 !=.local ||sc.names.lookup x.1==aa .local)&&(sc.names.lookup a==aa .local)
  &&decide ((a::frees sc).Nodup)&&(frees sc).all λn=>(eU (aF n) c.ns 0).isSome&&(c.sc.names.lookup n==aa .cell)&&((nq sc c.sc).names.lookup n==aa .cell)
noncomputable def j7(e:bj):Bool:=e.ctorIdx==7
def inner(c:Cc)(sc:d5)(a:Str):Cc:={c with ns:=aF a::(frees sc).map aF,sc:=nq sc c.sc,ro:=ae,top:=aq}
def places(c:Cc)(sc:d5):z0:=(frees sc).map λn=>(eU (aF n) c.ns 0).getD 0
def setOk(c:Cc)(x:Str):Bool:=yo (c.sc.names.lookup x)&&!c.ro
def xv:(e:bj)->Option {l:Option bj×Option bj//∃p,e=.Slice l.1 l.2 ag p}:=
 sz (P:=λe=>Option {l:Option bj×Option bj//∃p,e=.Slice l.1 l.2 ag p}) (λZ=>ag) (λZ Z Z=>ag) (λZ Z Z=>ag) (λZ Z Z=>ag) (λZ Z=>ag) (λZ Z=>ag) (λZ Z Z=>ag) (λlo B st p=>match st with|none=>aa ⟨(lo,B),p,rfl⟩|some _=>ag) (λZ Z Z Z=>ag) (λZ Z Z Z=>ag)
noncomputable def l6(e:bj):Option {x:Str//∃p,e=.Name x p}:=match e with|.Name x p=>aa ⟨x,p,rfl⟩|_=>ag
def u5:(e:bj)->Option {o:bj×Str×Pos//e=.Attribute o.1 o.2.1 o.2.2}:=sz (P:=λe=>Option {o:bj×Str×Pos//e=.Attribute o.1 o.2.1 o.2.2}) (λZ=>ag) (λZ Z Z=>ag) (λo m p=>aa ⟨(o,m,p),rfl⟩) (λZ Z Z=>ag) (λZ Z=>ag) (λZ Z=>ag) (λZ Z Z=>ag) (λZ Z Z Z=>ag) (λZ Z Z Z=>ag) λZ Z Z Z=>ag
noncomputable def only{α:Type}(l:List α):Option {a:α//l=[a]}:=match l with|[]=>ag|a::r=>(match r with|[]=>aa ⟨a,rfl⟩|_::_=>ag)
def ya(l:List Comprehension):Option {g:Str×bj×List bj//∃p,l=[⟨.Name g.1 p,g.2.1,g.2.2,0⟩]}:=match only l with|none=>ag|some g=>(match E:g.1 with|.mk t i B a=>(match l6 t with|none=>ag|some x=>if h:a=0 then aa ⟨(x.1,i,B),x.2.elim λp J=>⟨p,g.2.trans (aw (λg=>[g]) (E.trans ((aw (λt=>Comprehension.mk t i B a) J).trans (aw (λa=>Comprehension.mk (.Name x.1 p) i B a) h))))⟩⟩ else ag))
def litOf:Const->La|.int i=>aa (.int i)|.none=>aa .none|.bool b=>aa (.bool b)|.str x=>aa (.str<|aF x)|.bytes b=>aa (.bb<|b.map GI)|_=>ag
mutual
noncomputable def bM:Nat->Cc->bj->E
 |0,_,_=>.H
 |n+1,c,e=>match e with
  |.Constant k _ _=>(match litOf k with
   |some v=>.bU v
   |none=>.H)
  |.Name x _=>if dunder (aF x) then .H else(match eU (aF x) c.ns 0 with
   |some k=>.ba k
   |none=>if kd c.sc x=aa .globalImplicit/\c.gl (aF x)=ae then .dB (aF x) else .H)
  |.Tuple B _ _=>if B.any e7||decide (B.length>1000) then .H else .tup (e9 n c B)
  |.List B p=>if B.any e7||decide (B.length>1000) then .H else if c.hint p.line=0 then .lst (e9 n c B) else .kj (e9 n c B)
  |.Dict ks P p=>if ks.length≠P.length\/ks.all (·.isSome)=aq then .H
   else if ks.length=0 then(if c.hint p.line=2 then .vA else if c.hint p.line=1 then .fq [] else .aA [])
   else if ks.length<=15 then(if c.hint p.line=0 then .aA ((e9 n c<|ks.map vE).zip<|e9 n c P) else .fq ((e9 n c<|ks.map vE).zip<|e9 n c P))
   else if 17<ks.length/\ks.length<34/\ks.all tG=ae/\((ks.drop 17).map gn).Nodup then .aA ((ks.map λk=>E.bU<|.str<|gn k).zip<|e9 n c P)
   else .H
  |.Attribute v a _=>if isCall v then .H else .attr (bM n c v) (aF a)
  |.Subscript v i _=>(match xv i with
   |some l=>.eY (bM n c v) (rS n c l.1.1)<|rS n c l.1.2
   |none=>if uR i then .H else .sub (bM n c v) (bM n c i))
  |.Call g B ks p=>(match ks with
   |_::_=>.H
   |[]=>(match l6 g with
    |some f=>if B.any e7 then .H else(match Er (aF f.1) with
     |some b=>if kd c.sc f.1=aa .globalImplicit then .bi b (e9 n c B) else .H
     |none=>.call (bM n c g)<|e9 n c B)
    |none=>(match u5 g with
     |some o=>(match only B with
      |some a=>if e7 a.1||isCall o.1.1||o.1.2.2.endLine !=p.line then .H
       else if aF o.1.2.1=aF "append" then .hO (bM n c o.1.1) (bM n c a.1) else if aF o.1.2.1=aF "get" then .qr (bM n c o.1.1) (bM n c a.1) else .H
      |none=>.H)
     |none=>.H)))
  |.BinOp a J b _=>(match Fy J with
   |some o=>.bin o (bM n c a)<|bM n c b
   |none=>.H)
  |.UnaryOp J a _=>(match J with
   |.Not=>.not<|bM n c a
   |.USub=>.neg<|bM n c a
   |_=>.H)
  |.BoolOp J B _=>(match J with
   |.And=>.and<|e9 n c B
   |.Or=>.or<|e9 n c B)
  |.Compare a R S _=>(match only R with
   |some J=>(match only S with
    |some b=>if j7 b.1 then .H else .cmp (Bz J.1) (bM n c a) (bM n c b.1)
    |none=>.H)
   |none=>.H)
  |.IfExp t a b _=>.ite (lC n c t) (bM n c a)<|bM n c b
  |.ListComp O gens M _=>(match ya gens with
   |some g=>if xC c M g.1.1&&!j7 g.1.2.1 then
    (match g.1.2.2 with
     |[]=>.comp (bM n (inner c M g.1.1) O) (bM n c g.1.2.1) ag<|places c M
     |t::r=>(match r with
      |[]=>.comp (bM n (inner c M g.1.1) O) (bM n c g.1.2.1) (aa<|lC n (inner c M g.1.1) t)<|places c M
      |_::_=>.H)) else .H
   |none=>.H)
  |_=>.H
noncomputable def lC:Nat->Cc->bj->E
 |0,_,_=>.H
 |n+1,c,e=>match e with
  |.UnaryOp B a _=>(match B with
   |.Not=>.not<|lC n c a
   |_=>.H)
  |.BoolOp B J _=>(match B with
   |.And=>.and<|JZ n c J
   |.Or=>.or<|JZ n c J)
  |.Compare a M O _=>(match only M with
   |some B=>(match only O with
    |some b=>if j7 b.1 then .H else .cmp (Bz B.1) (bM n c a) (bM n c b.1)
    |none=>.H)
   |none=>.H)
  |.IfExp t a b _=>.ite (lC n c t) (lC n c a)<|lC n c b
  |.Name x p=>bM n c<|.Name x p
  |.Attribute v a p=>bM n c<|.Attribute v a p
  |.Subscript v i p=>bM n c<|.Subscript v i p
  |.Call f J P p=>bM n c<|.Call f J P p
  |_=>.H
noncomputable def e9:Nat->Cc->List bj->List E|0,_,B=>B.map λZ=>.H|n+1,c,B=>B.map<|bM n c
noncomputable def JZ:Nat->Cc->List bj->List E|0,_,B=>B.map λZ=>.H|n+1,c,B=>B.map<|lC n c
noncomputable def rS:Nat->Cc->Option bj->Option E|0,_,e=>e.map λZ=>.H|n+1,c,e=>e.map<|bM n c
end
noncomputable def vF:Nat->Cc->bj->T
 |0,_,_=>.sub .H .H
 |n+1,c,e=>match e with
  |.Name x _=>if setOk c x=ae/\dunder (aF x)=aq then(match eU (aF x) c.ns 0 with
   |some k=>.nm k
   |none=>.sub .H .H) else .sub .H .H
  |.Attribute v a _=>.attr (bM n c v)<|aF a
  |.Subscript v i _=>(match xv i with
   |some l=>.eY (bM n c v) (rS n c l.1.1)<|rS n c l.1.2
   |none=>if uR i then .sub .H .H else .sub (bM n c v) (bM n c i))
  |.Tuple B _ _=>if B.any e7 then .sub .H .H else .tup (B.map<|vF n c)
  |_=>.sub .H .H
noncomputable def u6(e:bj):Bool:=pG 8 e.ctorIdx&&pG e.ctorIdx 10
def HV(c:Cc)(ts:List bj):Option (List Str):=
 let line:=(ts.head?.map (·.pos.line)).getD 0;let names:=ts.filterMap λe=>(l6 e).bind λa=>if c.sc.names.lookup a.1==aa .local &&e.pos.line==line then aa a.1 else ag
 if names.length !=ts.length||names.eraseDups.length !=names.length then ag else aa names
def ajq:bj->Option (List bj):=sz (P:=λZ=>Option<|List bj) (λZ=>ag) (λZ Z Z=>ag) (λZ Z Z=>ag) (λZ Z Z=>ag) (λZ Z=>ag) (λB Z=>aa B) (λB Z Z=>aa B) (λZ Z Z Z=>ag) (λZ Z Z Z=>ag) λZ Z Z Z=>ag
def anl:bj->Option (List bj):=sz (P:=λZ=>Option<|List bj) (λZ=>ag) (λZ Z Z=>ag) (λZ Z Z=>ag) (λZ Z Z=>ag) (λZ Z=>ag) (λZ Z=>ag) (λB Z Z=>aa B) (λZ Z Z Z=>ag) (λZ Z Z Z=>ag) λZ Z Z Z=>ag
def zN(c:Cc)(t v:bj):Option (Option<|List Str):=match ajq t with
 |none=>aa ag
 |some ts=>(match anl v with
  |none=>aa ag
  |some vs=>
   if !(ts.length==2||ts.length==3)||vs.length !=ts.length then aa ag
   else if vs.any e7 then aa ag
   else match HV c ts with
    |none=>aa ag
    |some names=>if vs.all (foldedForSure 8) then aa ag else if vs.all (constantsAlone 8) then ag else aa (aa names))
def Bb(x:Str):Bool:=aF x==An
noncomputable def placesOf(c:Cc):List Str->Option z0|[]=>aa []|n::r=>if c.sc.names.lookup n==aa .local then(eU (aF n) c.ns 0).bind λk=>(placesOf c r).map (k::·) else ag
set_option genCtorIdx true in
structure vG where
 x:Str
 f:Str
 t:Str
 w:Str
 f':Str
 a:Str
def pairOf:(e:bj)->Option {q:bj×bj//∃k p,e=.Tuple [q.1,q.2] k p}:=sz (P:=λe=>Option {q:bj×bj//∃k p,e=.Tuple [q.1,q.2] k p}) (λZ=>ag) (λZ Z Z=>ag) (λZ Z Z=>ag) (λZ Z Z=>ag) (λZ Z=>ag) (λZ Z=>ag) (λl k p=>match l with|[]=>ag|a::r=>(match only r with|none=>ag|some b=>aa ⟨(a,b.1),k,p,aw (λr=>bj.Tuple (a::r) k p) b.2⟩)) (λZ Z Z Z=>ag) (λZ Z Z Z=>ag) λZ Z Z Z=>ag
def alx(b:List iv):Option {q:bj×bj//∃p,b=[.Assign [q.1] q.2 p]}:=match only b with
 |none=>ag
 |some s=>(match B:s.1 with
  |.Assign E e p=>(match only E with
   |none=>ag
   |some t=>aa ⟨(t.1,e),p,s.2.trans (aw (λs=>[s]) (B.trans (aw (λl=>Stmt.Assign l e p) t.2)))⟩)
  |_=>ag)
inductive vG.Of(q:vG):List ExceptHandler->Prop|i(p1 p2:Pos)(k3:Nat)(p3 p4 p5:Pos)(k6:Nat)(p6 p7 p8:Pos):vG.Of q [.ExceptHandler (aa<|.Name q.x p1) (aa q.f) [.Assign [.Name q.t p2] (.Tuple [.Constant (.str q.w) k3 p3,.Attribute (.Name q.f' p4) q.a p5] k6 p6) p7] p8]
theorem ajr(j:l=[h])(e1:h=.ExceptHandler (aa e) (aa f) b m)(hx:∃p,e=.Name x p)(n:∃p,b=[.Assign [o] q p])
  (r:∃p,o=.Name t p)(c:∃k p,q=.Tuple [s,u] k p)(d:∃k p,s=.Constant (.str w) k p)(ho:u=.Attribute v a y)(hg:∃p,v=.Name g p):vG.Of ⟨x,f,t,w,g,a⟩ l:=
 hx.elim λB E=>n.elim λJ M=>r.elim λp2 O=>c.elim λP c=>c.elim λR S=>d.elim λT d=>d.elim λV Y=>hg.elim λz A=>by subst j e1 E M O S Y ho A;exact .i B p2 T V z y P R J m
def J0(l:List ExceptHandler):Option {q:vG//q.Of l}:=match only l with|none=>ag|some h=>(match B:h.1 with|.ExceptHandler E J b M=>(match E with|none=>ag|some e=>(match J with|none=>ag|some f=>(match l6 e with|none=>ag|some x=>(match alx b with|none=>ag|some q=>(match l6 q.1.1 with|none=>ag|some t=>(match pairOf q.1.2 with|none=>ag|some u=>(match strOf u.1.1 with|none=>ag|some w=>(match u5 u.1.2 with|none=>ag|some o=>(match l6 o.1.1 with|none=>ag|some g=>aa ⟨⟨x.1,f,t.1,w.1,g.1,o.1.2.1⟩,ajr h.2 B x.2 q.2 t.2 u.2 w.2 o.2 g.2⟩))))))))))
def aly:(e:bj)->Option {q:Str×bj//∃p b,e=.Call (.Name q.1 p) [q.2] [] b}:=sz (P:=λe=>Option {q:Str×bj//∃p b,e=.Call (.Name q.1 p) [q.2] [] b}) (λZ=>ag) (λZ Z Z=>ag) (λZ Z Z=>ag) (λZ Z Z=>ag) (λZ Z=>ag) (λZ Z=>ag) (λZ Z Z=>ag) (λZ Z Z Z=>ag) (λg B E b=>match E with
   |[]=>(match l6 g with
    |some x=>(match only B with
     |some a=>aa ⟨(x.1,a.1),x.2.elim λp J=>gM p b ((aw (λg=>ao7 g B [] b) J).trans (aw (λB=>ao7 (.Name x.1 p) B [] b) a.2))⟩
     |none=>ag)
    |none=>ag)
   |_::_=>ag) λZ Z Z Z=>ag
def Jo(o:Option bj):Option {q:Str×bj//∃p a,o=aa (.Call (.Name q.1 p) [q.2] [] a)}:=match o with|none=>ag|some e=>(aly e).map λq=>⟨q.1,q.2.elim λp h=>h.elim λa h=>gM p a<|aw aa h⟩
mutual
noncomputable def vH:Nat->Cc->iv->S
 |0,_,_=>.H
 |n+1,c,s=>match s with
  |.Expr e _=>if u6 e then .H else .expr (bM n c e)
  |.Assign E e p=>(match only E with
   |none=>.H
   |some t=>if e7 t.1 then .H else if u6 e then KH n c t.1 e p else(match zN c t.1 e with
    |some o=>(match o with
     |none=>.aQ (vF n c t.1)<|bM n c e
     |some names=>(match placesOf c names with
      |some ks=>if ks.Nodup then .aQ (.tup<|ks.map .nm) (bM n c e) else .H
      |none=>.H))
    |none=>.H))
  |.AugAssign t J e _=>(match J with
   |.Add=>(match l6 t with
    |some x=>if setOk c x.1=ae/\dunder (aF x.1)=aq then(match eU (aF x.1) c.ns 0 with
     |some k=>.tX k<|bM n c e
     |none=>.H) else .H
    |none=>(match u5 t with
     |some o=>.tY (bM n c o.1.1) (aF o.1.2.1)<|bM n c e
     |none=>.H))
   |_=>.H)
  |.If t a b _=>.ifs (lC n c t) (qv n c a)<|qv n c b
  |.For t e b B _=>(match B with
   |[]=>if j7 e||c.ro then .H else .dN (vF n c t) (bM n c e) (qv n c b)
   |_::_=>.H)
  |.While t b B _=>(match B with
   |[]=>.uY (lC n c t)<|qv n c b
   |_::_=>.H)
  |.Return o _=>(match o with
   |none=>.ret ag
   |some e=>.ret<|aa<|bM n c e)
  |.Break _=>.brk
  |.Pass _=>.pass
  |.Raise o y _=>(match y with
   |some _=>.H
   |none=>(match Jo o with
    |some q=>if Bb q.1.1&&!e7 q.1.2&&(c.sc.names.lookup q.1.1==aa .globalImplicit) then .raise (bM n c q.1.2) else .H
    |none=>.H))
  |.Try b M B fin _=>(match B with
   |_::_=>.H
   |[]=>(match fin with
    |_::_=>.H
    |[]=>(match J0 M with
     |none=>.H
     |some q=>if Bb q.1.x&&q.1.f==q.1.f'&&aF q.1.a==[119,104,121]&&aF q.1.w==[102,97,117,108,116]&&(c.sc.names.lookup q.1.x==aa .globalImplicit)&&(c.sc.names.lookup q.1.f==aa .local)&&(c.sc.names.lookup q.1.t==aa .local)&&q.1.f !=q.1.t&&!c.ro&&c.top&&!dunder (aF q.1.f) then
      (match eU (aF q.1.f) c.ns 0 with
      |some O=>(match eU (aF q.1.t) c.ns 0 with
       |some P=>.tZ (qv n c b) O P
       |none=>.H)
      |none=>.H) else .H)))
  |_=>.H
noncomputable def qv:Nat->Cc->List iv->List S|0,_,b=>b.map λZ=>.H|n+1,c,b=>b.map<|vH n c
noncomputable def KH(n:Nat)(c:Cc)(t e:bj)(_:Pos):S:=sz (P:=λZ=>S) (λZ=>.H) (λZ Z Z=>.H) (λZ Z Z=>.H) (λZ Z Z=>.H) (λx J=>sz (P:=λZ=>S) (λZ=>.H) (λZ Z Z=>.H) (λZ Z Z=>.H) (λZ Z Z=>.H) (λZ Z=>.H) (λZ Z=>.H) (λZ Z Z=>.H) (λZ Z Z Z=>.H) (λZ Z Z Z=>.H) (λE gens B M=>match ya gens with
    |some g=>if (c.sc.names.lookup x==aa .local)&&J.line==M.line&&!(B.names.any λ(n,k)=>n==x&&(k==.local ||k==.cell))&&xC c B g.1.1&&!j7 g.1.2.1 then
     (match eU (aF x) c.ns 0 with
     |some k=>(match g.1.2.2 with
      |[]=>.aQ (.nm k)<|.comp (bM n (inner c B g.1.1) E) (bM n c g.1.2.1) ag<|places c B
      |u::r=>(match r with
       |[]=>.aQ (.nm k)<|.comp (bM n (inner c B g.1.1) E) (bM n c g.1.2.1) (aa<|lC n (inner c B g.1.1) u)<|places c B
       |_::_=>.H))
     |none=>.H) else .H
    |none=>.H) e) (λZ Z=>.H) (λZ Z Z=>.H) (λZ Z Z Z=>.H) (λZ Z Z Z=>.H) (λZ Z Z Z=>.H) t
end
def hV:bj->La|.Constant (.int i) _ _=>aa (.int i)|.Constant (.str x) _ _=>aa (.str<|aF x)|.Constant (.bytes b) _ _=>aa (.bb<|b.map GI)|.Constant .none _ _=>aa .none|.Constant (.bool b) _ _=>aa (.bool b)|_=>ag
noncomputable def lV(a:nT)(sc:d5):List Str:=
 let B:=a.args.map (·.arg)
 B++(sc.names.filterMap λ(n,k)=>if (k=.local \/k=.cell)/\n∉B then aa n else ag)
def UW(gl:Nm->Bool)(hint:Nat->Nat)(top:Bool)(a:nT)(sc:d5):Cc:={ns:=(lV a sc).map aF,sc:=sc,gl:=gl,ro:=aq,top:=top,hint:=hint}
def lD(gl:Nm->Bool)(hint:Nat->Nat)(top:Bool)(a:nT)(body:List iv)(sc:d5):Fn:=
 {iU:=a.args.length,eD:=a.defaults.map λe=>(hV e).getD .none,locs:=(lV a sc).length-a.args.length,body:=qv 60 (UW gl hint top a sc) body}
end
section
open PySem PySem.Calls PySem.W PyProof.Rows
section
namespace P
section
variable{prog:fO}{w:eh}{A:bL}{R:gP->az->Prop}{s:az}
set_option backward.match.sparseCases true in
theorem func
  (h:aD (model prog w) (A.deeper env) (execs body env) (λf a=>R (.ok (.ret (match f with|.ret v=>v|_=>.none))) a)
   (λe a=>aD (model prog w) (A.deeper env) (leaving env e) (λZ b=>R (.error e) b) (λc b=>R (.error c) b) a) s):
  cM (model prog w) A (.func body env) R s:=by
 refine ll rfl ?_;refine(?_:aD _ (A.deeper env) (do point;match<-(execs body env).onRaise (leaving env) with|.ret v=>ret v|_=>ret .none) _ _ s);refine bz (GH (bind (onRaise (mono h (λf a B=>?_) λZ Z B=>B))));induction f using GY<;>exact pure B
theorem Oa(b:A.depth<recursionLimit)
  (ho:s.heap.get? a=aa o)(k:o.data=.func fd)(d:fd.scope.isCoroutine=aq)(f:fd.scope.isGenerator=aq)(l:fd.body=.stmts body)(n:s.heap.CodeRec fd.code fd.qualname)
  (h:wpAny (model prog w) A.in1 (bindArgs fd args) (λbinds j=>
   wpAny (model prog w) A.in1 (newFunctionEnv fd.scope fd.globals fd.closure binds (fd.qualname++".<locals>.") (aa a) fd.code ag fd.builtins)
    (λenv g=>g.heap.NoLimit/\cM (model prog w) A (.func body env) R g) (λe i=>R (.error e) i) j) (λe i=>R (.error e) i) s):
  cM (model prog w) A (.call (.ref a) args) R s:=by
 refine ll rfl (Lw n λc T V Y M B E P=>?_);replace h:=(M)▸h;refine bz<|sM ho ?_;rw[k];refine(?_:aD _ A.in1 (callFunction a fd args) _ _ s);delta callFunction;rw[M,l,f,d];refine bz (m:=field (.ref c) 1)<|jX B E P<|bind<|pure ?_;exact bz (fh h (λbinds j S=>bz (fh S (λenv g O=>bz (wpAny_enterFrame O.1 b
  (pure<|And.intro rfl O.2))) λZ Z J=>J)) λZ Z J=>J)
end
end P
structure v7(n:Nat)(A:bL)(l:List gA):Prop where
 hd:A.handled=ag
 FU:A.depth+8*n+45<600
 LC:A.units+40*n+205<9000
 fx:A.frames=aa l
theorem cI.rm(h:cI (n+1) A l):v7 n A l:=by refine gl λM B=>?_;obtain⟨E,O,P,J⟩:=h;refine B ?_;exact⟨E,by lia,by lia,J⟩
theorem cI.make(h:cI (n+1) A l)(C)(rest):v7 n (A.under<|.builtin "type.__call__" ⟨.ref C::rest,[]⟩) l:=by
 obtain⟨B,J,M,E⟩:=h;refine⟨B,?_,?_,?_⟩
 ·refine(?_:A.depth+1+8*n+45<600);lia
 ·refine(?_:A.units+1+40*n+205<9000);lia
 ·refine(?_:pushEnvs [] A.frames=aa l);rw[E];rfl
structure qx(C:Cx)(a:aH)(params:nT)(body:List iv)(scope:d5)(eD:List V):Prop where
 obj:∀G:Prop,(∀oc od LY name qual dV kV doc pm an yN ct,C.K.lookup a=aa ⟨oc,od,.func<|fnOf name qual params body scope dV kV doc pm an yN ct,LY⟩->codeIn C.K yN qual=ae->
  ((dV=.none/\eD=[])\/∃T o vs k,dV=.ref T/\C.K.lookup T=aa o/\o.data=.seq vs k/\∀F ι,aU C F ι vs.toList eD)->G)->G
def nA(params:nT)(scope:d5)(a:Nat):Bool:=
 params.posonlyargs.isEmpty&&params.vararg.isNone&&params.kwonlyargs.isEmpty&&params.kwarg.isNone&&(scope.kind==.function)&&!scope.isCoroutine&&!scope.isGenerator&&decide ((lV params scope).Nodup)
  &&(lV params scope).all (λx=>scope.names.lookup x==aa .local ||scope.names.lookup x==aa .cell)&&decide (a<=params.args.length)
theorem agJ{α:Type}{x n:Str}{v:α}{r:List (Str×α)}(h:((n,v)::r).map (·.1)|>.Nodup)(e:x=n):r.lookup x=ag/\((n,v)::r).lookup x=aa v:=by subst e;refine⟨?_,by rw[pP,beq_self_eq_true ..]⟩;induction q:r.lookup x using aO with|none=>rfl|some u=>exact aT (List.mem_map.mpr<|i12 _ (mem_of_lookup q) rfl) (mW.mp h).1
theorem adT{α:Type}{x n:Str}{v:α}{r:List (Str×α)}(e:x≠n):((n,v)::r).lookup x=r.lookup x:=by rw[pP,beq_eq_false_iff_ne.mpr e]
theorem or_none{α:Type}{a b c:Option α}(h:a=ag)(e:b=c):a.or b=c:=by subst h;exact e
theorem bind_or{f:(Str->Option ar)->Str->Option ar}{x n:Str}{v:ar}{r:List (Str×ar)}(hd:(((n,v)::r).map (·.1)).Nodup)(ih:∀m:Str->Option ar,f m x=(r.lookup x).or (m x))(m m':Str->Option ar)(h1:x=n->m' x=aa v)(h2:x≠n->m' x=m x):f m' x=(((n,v)::r).lookup x).or (m x):=by
 rw[ih ..];by_cases e:x=n
 ·exact aW (agJ (v:=v) hd e) λB E=>(or_none B<|h1 e).trans (aw (λo:Option ar=>o.or<|m x) E).symm
 ·rw[adT e,h2 e]
theorem Iw(hx:k x=aa .local):(b.map (·.1)).Nodup->∀{m:Str->Option ar},bindL k b m x=(b.lookup x).or (m x):=by
 induction b with|nil=>exact λZ Z=>rfl|cons p r B=>
  intro h m;refine bind_or h (λZ=>B (mW.mp h).2) m _ (λe=>?_) λe=>?_
  ·refine(?_:(if k p.1=aa .local then λy=>if y=p.1 then aa p.2 else m y else m) x=_);rw[aC<|rws e hx];exact aC e
  ·by_cases c:k p.1=aa .local
   ·refine(?_:(if k p.1=aa .local then λy=>if y=p.1 then aa p.2 else m y else m) x=_);rw[aC c];exact aB e
   ·exact congrFun (aB c) x
theorem adU(hx:k x≠aa .local):(b.map (·.1)).Nodup->∀{m:Str->Option ar},bindC k b m x=(b.lookup x).or (m x):=by
 induction b with|nil=>exact λZ Z=>rfl|cons p r B=>
  intro h m;refine bind_or h (λZ=>B (mW.mp h).2) m _ (λe=>?_) λe=>?_
  ·refine(?_:(if k p.1=aa .local then m else λy=>if y=p.1 then aa p.2 else m y) x=_);rw[aB (e▸hx)];exact aC e
  ·by_cases c:k p.1=aa .local
   ·exact congrFun (aC c) x
   ·refine(?_:(if k p.1=aa .local then m else λy=>if y=p.1 then aa p.2 else m y) x=_);rw[aB c];exact aB e
theorem aaa{x:Str}(h:(acc.lookup x).isSome=ae):((p::acc).lookup x).isSome=ae:=by rw[pP];induction x==p.1 using aS with|true=>rfl|false=>exact h
theorem ab9{x:Str}:∀{n}{acc},(acc.lookup x).isSome=ae->((cellsFrom n names acc).lookup x).isSome=ae:=by
 induction names with|nil=>exact λh=>h|cons p r B=>
  intro n acc h;refine(?_:((ite ((p.2==.cell)=ae) (cellsFrom (n+1) r ((p.1,n)::acc))<|cellsFrom n r acc).lookup x).isSome=ae);by_cases c:(p.2==NB)=ae
  ·rw[aC c];exact B<|aaa h
  ·rw[aB c];exact B h
theorem PN:∀{n}{acc},(x,NB)∈names->((cellsFrom n names acc).lookup x).isSome=ae:=by
 induction names with|nil=>exact λh=>nomatch h|cons p r B=>
  intro n acc h;refine(?_:((ite ((p.2==.cell)=ae) (cellsFrom (n+1) r ((p.1,n)::acc))<|cellsFrom n r acc).lookup x).isSome=ae);by_cases c:(p.2==NB)=ae
  ·rw[aC c];exact(sS.mp h).elim (λe=>ab9 (by rw[<-e,pP,beq_self_eq_true ..];rfl)) B
  ·rw[aB c];exact(sS.mp h).elim (λe=>aT (aw (λp:Str×G5=>p.2==NB) e).symm c) B
theorem adV{α:Type}{ps:List Str}{vs:List α}:ps.length<=vs.length->(ps.zip vs).map (·.1)=ps:=λh=>ao8 h
section
variable{X:Fx}
theorem PQ{C:Cx}{ps oth:List Str}{fd':mV}(hlen:full.length=ps.length)(hr:aU C F ι full fd')(a:ps.Nodup){k:Nat}{x:Str}(h1:(ps++oth)[k]?=aa x)(h2:(fd'.map Sl.val++gQ oth.length .un)[k]?=aa sl):
  sl=.un\/∃v d,sl=.val d/\(ps.zip full).lookup x=aa v/\Rl C F ι v d:=by
 have B:(fd'.map Sl.val).length=ps.length:=(bJ _).trans<|hr.length.symm.trans hlen;by_cases c:k<ps.length
 ·replace h1:=(sI c)▸h1;rw[sI<|rwl B c,gB] at h2;exact ej h2 λd E e=>bo (hr.get E) λv J rv=>.inr<|fX v d e.symm ((Du a h1).trans J) rv
 ·replace h2:=(nS (B▸jV c))▸h2;exact .inl<|ao9<|jW h2
theorem HW{fd':mV}:¬rR (fd'.map Sl.val++gQ n .un) k:=λq=>q.elim λo h=>(List.mem_append.mp<|jW h).elim (λh=>j8 h λd Z e=>nomatch e) λh=>nomatch ao9 h
theorem adW{C:Cx}{a:aH}{ι:lk}(hp:callEnvC fd s.heap.objs.size a=p)(b:Wd C F)(cY:St C s F ι F ι m s)
  (hlen:full.length=ps.length)(hr:aU C F ι full fd')(f:(ps++oth).Nodup)(hk:∀x∈ps++oth,p.scope.names.lookup x=aa .local \/p.scope.names.lookup x=aa .cell)
  (I:InCallC s p.locals (bindL p.kindOf (ps.zip full) λZ=>ag) p.cells (bindC p.kindOf (ps.zip full) λZ=>ag) s1):
  FS C {bc:=s,cN:=F,cy:=ι,p:=p,ns:=ps++oth,ex:=[],ro:=aq,out:=fr} F ι m (fd'.map Sl.val++gQ oth.length .un) s1:=by
 refine fw I.done λl n V X=>?_;subst V;have Y:s.heap.get? p.locals=ag:=hp▸rn s.heap;have O:=(List.nodup_append.mp f).1;have T:=(adV<|dn hlen.symm).symm▸O;refine⟨cY.grow X,⟨_,⟨I.toInCall.ns,cY.jz Y,λk x P B J E=>?_,λZ k x P B J E=>?_,λk x P B J E=>?_,λk x P B J=>(hk x<|jW B).imp_right .inl,λx y c B J=>name_of_addr I.apart (mem_of_lookup B)<|mem_of_lookup J,λk j Z Z Z Z Z R=>aT R HW,λk Z Z R=>aT R HW,λZ Z h=>(nomatch h),Nr⟩⟩,b⟩
 ·rcases PQ hlen hr O B J with rfl|⟨v,d,rfl,S,rv⟩
  ·exact .un
  ·rw[Iw E T,S];exact .val rv
 ·have M:(p.cells.lookup x).isSome=ae:=by subst hp;exact PN<|mem_of_lookup E
  refine Bo M λc M=>?_;have g:=I.above x c<|mem_of_lookup M;refine⟨jP c _ M (I.cell x c M) ?_ (cY.jz (XE (eg (by subst hp;exact g)))),λo e=>HW ⟨o,J.trans<|aw aa e⟩⟩;rcases PQ hlen hr O B J with rfl|⟨v,d,rfl,S,rv⟩
  ·exact .un
  ·rw[adU (λh=>nomatch E.symm.trans h) T,S];exact .val rv
 ·refine bZ E (λE=>?_) λi=>aW i λZ h=>?_
  ·exact(hk x<|jW B).elim (λh=>nomatch E.symm.trans h) λh=>nomatch E.symm.trans h
  ·exact dG h
noncomputable def fin(x:Fl):R V:=match x with|.nx _ m=>.ok .none m|.rt v m=>.ok v m|.ex y _ m=>.exc y m|_=>.H
theorem ajs(h:fin x=r)(hb:r≠.H):x≠.H:=λe=>hb<|h.symm.trans<|aw fin e
theorem v7.deeper(h:v7 n A l)(p):cI n (A.deeper p) (p::l):=
 ⟨h.hd,(by have:=h.FU;refine(?_:A.depth+1+8*n+40<600);lia),(by have:=h.LC;refine(?_:A.units+3+40*n+200<9000);lia),aw (zf _) h.fx⟩
set_option backward.match.sparseCases true in
theorem agK(L:gO X body N)(Q:X.ro=aq)(U:X.top=ae->fr=[])(W:X.ns=ps++oth)(kI:X.sc=fd.scope)
  {m:J}{F:Fz}{ι:lk}{s:az}{vals full:Ld}{A:bL}{fd':mV}{r:R V}(k:v7 X.n A fr)(je:Frs s.heap F ι fr)(l:Wd X.C F)(cY:St X.C s F ι F ι m s)
  (ho:s.heap.get? a=aa o)(hd:o.data=.func fd)(J1:fd.body=.stmts body)(nI:fd.closure=[])(hg:fd.globals=mainGlobals)(sA:fd.builtins=builtinsNs)(c:s.heap.CodeRec fd.code fd.qualname)(q:fd.scope.kind=.function)(h6:fd.scope.isCoroutine=aq)(h7:fd.scope.isGenerator=aq)(t:(ps++oth).Nodup)
  (hk:∀x∈ps++oth,fd.scope.names.lookup x=aa .local \/fd.scope.names.lookup x=aa .cell)(hlen:full.length=ps.length)(hr:aU X.C F ι full fd')(J2:BindsTo s fd ⟨vals,[]⟩ (ps.zip full))
  (hx:fin (eC X.ok X.κ (fd'.map Sl.val++gQ oth.length .un) m N)=r)(hb:r≠.H):cM X.C.md A (.call (.ref a) ⟨vals,[]⟩) (nu X.C s F ι fr r) s:=by
 refine P.Oa (fd:=fd) (body:=body) (bS (au (cZ _ _)<|cZ _ _)<|cL k.FU<|dl rfl) ho hd h6 h7 J1 c<|J2 _ _ _ _ ?_;rw[nI];refine apa q (λx hx=>(hk x.1<|MC _ (List.of_mem_zip hx).1).imp_right λh=>⟨h,PN<|mem_of_lookup h⟩) λp B s1 I=>?_;have B:callEnvC fd s.heap.objs.size a=p:=B.symm;have B4:p.scope=fd.scope:=by subst B;rfl
 refine fw I.done λhh tk Gb Bc=>⟨rwl Gb (l.lim _ λb o e=>Bc b o<|cY.fz b o e),P.func ?_⟩;have O:X.Of {bc:=s,cN:=F,cy:=ι,p:=p,ns:=ps++oth,ex:=[],ro:=aq,out:=fr}:=by exact rws B ⟨⟨q,hg,sA,t⟩,W.symm,kI.symm,Q.symm,λZ=>rfl,je,U⟩
 have u:=k.deeper p;refine P.mono (L _ F ι m _ s1 _ O u (adW (fr:=fr) B l cY hlen hr t (rwl B4 hk) I)<|ajs hx hb) (λf w Y=>match Y with|.i E M S e' l1 l2 z j=>j.ind (G:=λy f=>fin y=r->nu X.C s F ι fr r (.ok (.ret (match f with|.ret v=>v|_=>.none))) w) (λh=>.ok .none .none S E M rfl h.symm z.st .none) (λh=>aT h.symm hb) (λv d g h=>.ok v d S E M rfl h.symm z.st g) hx)
  λe w Y=>match Y with|.i why E M S e' l1 l2 j y=>P.of (aaQ O u rfl y λgy y'=>?_)
 exact ui y' λx ox T oT q1 q2 D=>D.fm.elim λml K=>.ex e why S E M rfl (hx.symm.trans<|aw fin j) D.st (ee x ox ([(T,oT)]) q1 q2 (K.jf.sublist<|ME _<|List.sublist_append_left _ _) λb o hm=>aW (K.ex b o<|MC _ hm) λa b=>⟨a,b.1⟩)
structure ano(params:nT)(scope:d5)(nd:Nat):Prop where
 h1:params.posonlyargs=[]
 h2:params.vararg=ag
 h3:params.kwonlyargs=[]
 h4:params.kwarg=ag
 h5:scope.kind=.function
 h6:scope.isCoroutine=aq
 h7:scope.isGenerator=aq
 h8:(lV params scope).Nodup
 h9:∀x∈lV params scope,scope.names.lookup x=aa .local \/scope.names.lookup x=aa .cell
 qN:nd<=params.args.length
theorem agL(h:nA params scope a=ae):ano params scope a:=by unfold nA at h;simp only[yY,List.isEmpty_iff,Option.isNone_iff_eq_none,bO,zi,decide_eq_true_eq,List.all_eq_true,MU] at h;exact aW h λO P=>aW O λR S=>aW R λT V=>aW T λX Y=>aW X λB b=>aW B λE c=>aW E λJ d=>aW J λM e=>aW M λf g=>⟨f,g,e,d,c,b,Y,V,S,P⟩
theorem Ta(b:C.K.In s.heap)(h:(a=.none/\eD=[])\/∃T o vs k,a=.ref T/\C.K.lookup T=aa o/\o.data=.seq vs k/\∀F ι,aU C F ι vs.toList eD):
  ∃(dv:Ld)(r:Option (Array ar)),aU C F ι dv eD/\(r.getD #[]).toList=dv/\∀(M:mS)(A)(E)(Q),Q r s->wpAny M A (seqItems? a) Q E s:=by
 rcases h with⟨rfl,rfl⟩|⟨T,o,vs,k,rfl,B,J,O⟩
 ·exact fX ([]) ag (.nil) rfl λM A E Q q=>bE q
 ·exact fX vs.toList (aa vs) (O F ι) rfl λM A E Q q=>wpAny_seqItems (b _ _ B) J q
theorem RP(hF:qx X.C a params body scope eD)(g:X.ns=lV params scope)(h:X.sc=scope)(i:X.ro=aq)(j:gO X body o)(p:nA params scope eD.length=ae)(q:X.top=ae->fr=[])
  {l:mV}{m:J}{F:Fz}{ι:lk}{s:az}{vals:Ld}{A:bL}{x:R V}(t:v7 X.n A fr)(je:Frs s.heap F ι fr)(b:Wd X.C F)(cY:St X.C s F ι F ι m s)(hl:aU X.C F ι vals l)
  (hx:hH X.ok X.κ ⟨params.args.length,eD,(lV params scope).length-params.args.length,o⟩ l m=x)(hb:x≠.H):
  cM X.C.md A (.call (.ref a) ⟨vals,[]⟩) (nu X.C s F ι fr x) s:=by
 refine gl λW u=>?_;refine hF.obj _ λZ od LY name qual v w O y z D G hK I K=>?_;have P:=b.k _ cY.fz;have B:=agL p;refine uQ hx hb λc hx=>cP (Ta (F:=F) (ι:=ι) P K) λdv r v9 L N=>?_;refine u ?_;have E:lV params scope=params.args.map (·.arg)++(scope.names.filterMap λ(n,k)=>if (k=.local \/k=.cell)/\n∉params.args.map (·.arg) then aa n else ag):=rfl;generalize(scope.names.filterMap λ(n,k)=>if (k=.local \/k=.cell)/\n∉params.args.map (·.arg) then aa n else ag)=oth at E;generalize d:params.args.map (·.arg)=ps at E;have M:=d▸(bJ _).symm;have S:=v9.length;have e:=hl.length;have f:=E▸B.h8;have Q:=E▸B.h9;have T:(lV params scope).length-params.args.length=oth.length:=by rw[E,M,d6,CM ..]
 rw[<-e,<-S,M] at c;have U:=M▸S▸B.qN;have Y:(vals++dv.drop (dv.length-(ps.length-vals.length))).length=ps.length:=by rw[d6,yZ,XD c.2,CK c.1]
 refine agK (fd:=fnOf name qual params body scope v w O y z D G) (ps:=ps) (oth:=oth) j i q (g.trans E) h t je b cY (P _ _ hK) rfl rfl rfl rfl rfl (codeRec_of P I) B.h5 B.h6 B.h7 f Q Y (fd':=l++eD.drop (eD.length-(params.args.length-l.length))) ?_
  (O1 (dv:=dv) (r:=r) B.h1 d B.h2 B.h3 B.h4 (List.nodup_append.mp f).1 c.1 c.2 U L N) (rws T hx) hb
 rw[M,<-e,<-S];exact hl.append<|v9.drop _
end
end
end
section
open PySem PySem.Calls PySem.W PyProof.Rows
open Sem (wp)
section
open Builtin Builtin.ObjectAttr
theorem Zz:findCls [] (.type "Exception") (.type "type") "__init__"=aa (.val<|.builtin "Exception.__init__"):=by kernel_rfl
theorem ajt(h):Frag.In [] h:=λZ Z e=>by exact bk e
section
variable{prog:fO}{w:eh}{A:bL}{E:Ar}{s:az}{K:fg}
theorem Y7(h:Q (.builtin "Exception.__init__",[]) {s with toks:=s.toks+1}):wpAny (model prog w) A (getMethod (.type "Exception") "__init__" pl) Q E s:=by
 have X:=ajt s.heap;unfold getMethod;have L:iu (model prog w) s.heap (specialOf (.type "Exception") "__getattribute__") (aa<|.builtin "type.__getattribute__"):=
  (NC (show typeOf (.type "Exception")=pure (.type "type") by kernel_rfl)).andThen (NC (by rw[jq ..,jr];kernel_rfl))
 refine aI<|L.here ?_;dsimp only;rw[aC canon_tga];refine aI (cls_open (K:=[]) (mc:=.type "type") (r:=.val<|.builtin "Exception.__init__") (hook:=ag) X (NC (by rfl)) (NC (by kernel_rfl)) (by kernel_rfl) (looks_hook X (by kernel_rfl)) (by kernel_rfl) Zz<|bE ?_);refine(?_:wpAny _ _ (handedOut _) _ _ _);exact handed_on (by kernel_rfl)<|bE h
end
open Builtin Builtin.ObjectAttr
open Sem (wp)
noncomputable def I4:Ld:=[.type "Exception",.type "BaseException",.type "object"]
noncomputable def lX:Ld->Bool|[]=>aq|v::r=>match v with|.ref _=>lX r|_=>v::r==I4
theorem OC{P:Ld->Prop}(base:P I4)(step:∀c r,P r->P (.ref c::r)):lX l=ae->P l:=by induction l with|nil=>exact λh=>dG h|cons v r B=>induction v using wL with|ref c=>exact λh=>step c r (B h)|_=>exact λh=>(bO.mp (show(_==I4)=ae from h))▸base
theorem YL(self:ar){l:Ld}(h:lX l=ae):refuseLoop self "__setattr__" l=pure ():=
 OC (P:=λl=>refuseLoop self "__setattr__" l=pure ()) (PySem.F.store_Exception.passes self) (λc r B=>by rw[refuseLoop_ref ..];exact B) h
theorem rg{T:String}(h:[y7 "Exception",y7 "BaseException",y7 "object"].contains (.type T)=b)(hl:lX l=ae):l.contains (.type T)=b:=
 OC (P:=λl=>l.contains (.type T)=b) h (λc r B=>by rw[XF,B];rfl) hl
section
variable{prog:fO}{w:eh}{A:bL}{E:Ar}{s:az}{K:fg}{x C:aH}
theorem PR{R:gP->az->Prop}(X:K.In s.heap)(hx:s.heap.get? x=aa g)(i:g.cls=.ref C)(hc:clsIn K C=aa cd)(ho:lX cd.mro=ae)(ne:cd.mro.isEmpty=aq)(j:takerIn K C name=aa ag)
  (h:∀b,wpAny (model prog w) A.in1 (storeInOwnDict (.ref x) (.ref C) (.str name d) name v b)
   (λfin c=>match fin with|.done f=>R (.ok f) c|.again c'=>c'.quiet=ae/\codeAny (model prog w) A c' R c) (λe c=>R (.error e) c) s):
  codeAny (model prog w) A (.call (.builtin "object.__setattr__") ⟨[.ref x,.str name d,v],[]⟩) R s:=by
 have B:=PySem.F.store_object;have It:iu (model prog w) s.heap (typeOf<|.ref x) (.ref C):=rws i<|(CB hx).andThen .now;have sub:iu (model prog w) s.heap (isInstance (.ref x)<|.type "object") ae:=It.andThen (XG X (by unfold mroIn;rw[hc,wM ..,aB (by rw[ne];decide),rg (b:=ae) (dc rfl) ho]));refine XH B.slot.plain B.entry (@XI (model prog w) _ _ s "object.__setattr__" "object" "__setattr__" (.ref x) [.str name d,v] [] _ B.kind B.split sub (B.args (.ref x) (.str name d) v) (lZ j λattr J E=>?_));have hm:iu (model prog w) s.heap (mroOf<|.ref C) cd.mro:=(CH X hc).andThen .now;have L3:iu (model prog w) s.heap (storeTaker? attr) ag:=by
  induction attr using aO with|none=>exact .now|some a=>
   refine ej E λb M E=>(looks_takesIn X M).andThen ?_;induction b using aS
   ·exact .now
   ·exact iZ E
 rw[osa_eq ..,refuse_eq ..];refine aI<|aI<|It.here<|aI<|hm.here ?_;rw[YL _ ho];exact bE<|aI<|It.here<|aI<|(CN X J).here<|aI<|L3.here<|h _
theorem QJ(X:K.In s.heap)(hx:s.heap.get? x=aa b)(c:b.cls=.ref C)
  (hs:findIn K (.ref C) "__setattr__"=aa (aa<|.builtin "object.__setattr__"))
  (h:codeAny (model prog w) A (.call (.builtin "object.__setattr__") ⟨[.ref x,.str name s.toks,v],[]⟩) (λr a=>match r with|.ok (.ret _)=>Q () a|.ok _=>False|.error e=>E e a) {s with toks:=s.toks+1}):
  wpAny (model prog w) A (CG (.ref x) name v) Q E s:=by
 have B:iu (model prog w) s.heap (typeOf<|.ref x) (.ref C):=rws c<|(CB hx).andThen .now;refine aI (Nv (aI (aI (aI (B _ _ _ _ (λZ Z e=>e) (CN X hs _ _ _ _ (λZ Z e=>e)<|jn ?_))))));rw[PySem.F.store_object.slot.bind ..];refine aI (bE (aI (XJ (codeAny_mono h λr a z=>?_))));induction r using y8 with|error e=>exact z|ok f=>induction f using GY<;>first|exact z|exact z.elim|exact bE (bE z)
theorem Ob{v nv:ar}{tk0:Tok}{Q:Fin->az->Prop}(D:s.heap.get? a=aa (dictOf es n))(hl:(qV name es).isSome=ae)(hz:es.length<=1000000)
  (hQ:∀h' b,h'.get? a=aa (dictOf (q9 name (wK w.params name) (.str name s.toks) v es)<|zh name es n)->dp a s.heap h'->Q (.done<|.ret .none) {s with heap:=h',toks:=b}):
  wpAny (model prog w) A (storeInDict a (.str name tk0) name v) Q E s:=by
 have x:(s.heap.update a<|Obj.putName name (wK w.params name) (.str name s.toks) v).get? a=aa (dictOf (q9 name (wK w.params name) (.str name s.toks) v es)<|zh name es n):=by rw[<-Nu ..];exact pK _ D (by rw[Nu ..];rfl)
 unfold storeInDict;refine aI<|bE<|aI ?_;unfold nsSet;refine aI<|aI<|Xw<|bE<|aI<|Nv<|aI<|G7 D ?_;have B:=RM hl;dsimp only;rw[ao0 ..,B];refine wpAny_updatePart D ?_;refine aI (Xh x (pastItsLine_dict (by rw[Nw,CI];exact au (RL _ _ _ _ _) (au (gZ hz)<|dl rfl))) ?_);exact bE<|hQ _ _ x (pM ..).extBut
theorem adX{v:ar}(X:K.In s.heap)(hx:s.heap.get? x=aa f)(g:f.cls=.ref C)(k:∀c,f.data≠.cls c)(hd:f.dict=ag)(je:∀d,({f with dict:=aa d}:Obj).isFreed=aq)
  (hs:findIn K (.ref C) "__setattr__"=aa (aa<|.builtin "object.__setattr__"))(hc:clsIn K C=aa cd)(ho:lX cd.mro=ae)(ne:cd.mro.isEmpty=aq)(hh:cd.hasDict=ae)(j:takerIn K C name=aa ag)
  (hQ:∀h' i t,h'.get? s.heap.objs.size=aa (dictOf [⟨hashStr w name,.str name t,v⟩] 1)->h'.get? x=aa {f with dict:=aa s.heap.objs.size}->(∀b o,b≠x->s.heap.get? b=aa o->h'.get? b=aa o)->Q () {s with heap:=h',toks:=i}):
  wpAny (model prog w) A (CG (.ref x) name v) Q E s:=by
 refine QJ X hx g hs (PR (s:={s with toks:=s.toks+1}) X hx g hc ho ne j λb=>?_);unfold storeInOwnDict;refine aI<|bE<|aI<|aI<|G7 hx ?_;rw[g];refine aI<|Xy (s:={s with toks:=s.toks+1}) (CH X hc) ?_;rw[hh];have M:=ju<|i7 hx;simp only[hd];rw[aB<|dc rfl,aB (by refine(?_:¬(!true||!true)=ae);decide)];refine aI<|Xm ?_;have O:=eT {cls:=.type "dict",data:=.dict #[]} hx;have B:(s.heap.push {cls:=.type "dict",data:=.dict #[]}).get? s.heap.objs.size=aa (dictOf [] 0):=mT _ rfl;refine aI<|wpAny_update O ?_;have R:=pK (λo:Obj=>{o with dict:=aa s.heap.objs.size}) O<|je _;have J:=(Nx (h:=s.heap.push {cls:=.type "dict",data:=.dict #[]}) (a:=x) (λo:Obj=>{o with dict:=aa s.heap.objs.size}) M).trans B;refine bE ?_;dsimp only;refine fh (Ob (v:=v) (nv:=v) (es:=[]) (n:=0) (name:=name) (tk0:=s.toks) J rfl (by exact nP _) λh' i S P=>hQ h' i _ S (P x _ M R) λb o T e=>?_) (λZ Z z=>z) λZ Z z=>z;have V:=i7 e;refine P b o (ju V)<|(Nx _ _<|nQ T).trans<|eT _ e
theorem adY{v:ar}{es:List fP}{n:Nat}{Q:Unit->az->Prop}(X:K.In s.heap)(hx:s.heap.get? x=aa e)(a:e.cls=.ref C)(hd:e.dict=aa d)(f:s.heap.get? d=aa (dictOf es n))(hl:(qV name es).isSome=ae)(hz:es.length<=1000000)
  (hs:findIn K (.ref C) "__setattr__"=aa (aa<|.builtin "object.__setattr__"))(hc:clsIn K C=aa cd)(ho:lX cd.mro=ae)(ne:cd.mro.isEmpty=aq)(hh:cd.hasDict=ae)(g:takerIn K C name=aa ag)
  (hQ:∀h' c t,h'.get? d=aa (dictOf (q9 name (hashStr w name) (.str name t) v es)<|zh name es n)->dp d s.heap h'->Q () {s with heap:=h',toks:=c}):
  wpAny (model prog w) A (CG (.ref x) name v) Q E s:=by
 refine QJ X hx a hs (PR (s:={s with toks:=s.toks+1}) X hx a hc ho ne g λb=>?_);unfold storeInOwnDict;refine aI<|bE<|aI<|aI<|G7 hx ?_;rw[a];refine aI<|Xy (s:={s with toks:=s.toks+1}) (CH X hc) ?_;rw[hh,hd,aB<|dc rfl];refine bE ?_;dsimp only;exact fh (Ob (s:={s with toks:=s.toks+1}) (v:=v) (nv:=v) (name:=name) (tk0:=s.toks) f hl hz λh' c B J=>hQ h' c _ B J) (λZ Z z=>z) λZ Z z=>z
end
end
section
open Builtin Builtin.ObjectAttr
structure u7(h:eM)(C N:aH)(bm:List ar)(nm q:Str)(bs:List ar)(sn:List Str)(sub:List ar)(ab:Bool)(col:Option Bool)(dd:Option aH)(k0 k1 k2 k3 k5:Option ar):Prop where
 at_:h.get? C=aa (excClassObj nm q C N bs bm ae sn sub ab col dd k0 k1 k2 k3 k5 "Exception.__new__")
 only:lX (.ref C::bm)=ae
section
variable{M:mS}{A:bL}{E:Ar}{h:eM}{g:Array GenState}{d:Drawn}{t:Nat}{os:ra}
variable{nm q:Str}{C N:aH}{bs bm:Ld}{sn:List Str}{sub:Ld}{ab:Bool}{col:Option Bool}{dd:Option aH}{k0 k1 k2 k3 k5:Option ar}
theorem aaW(h:lX (.ref C::bm)=ae):lX bm=ae:=h
theorem Y8(T:u7 h C N bm nm q bs sn sub ab col dd k0 k1 k2 k3 k5)(a:Q () ⟨h,g,d,t,os⟩):wpAny M A (checkBuiltinCall "Exception.__new__" ⟨.ref C::rest,[]⟩) Q E ⟨h,g,d,t,os⟩:=wpAny_check_new_subU ND (rg (b:=ae) (dc rfl)<|aaW T.only) .base T.at_ a
theorem YM(T:u7 h C N bm nm q bs sn sub ab col dd k0 k1 k2 k3 k5)(he:h.get? e=aa a)(b:a.cls=.ref C)(f:Q () ⟨h,g,d,t,os⟩):
  wpAny M A (checkBuiltinCall "Exception.__init__" ⟨.ref e::rest,[]⟩) Q E ⟨h,g,d,t,os⟩:=by
 obtain⟨c,B,dt,J⟩:=a;dsimp only at b;subst b;have F:=ND;unfold checkBuiltinCall;rw[F.initKind,F.initSplit,F.initRow];refine aI<|aI<|aI<|Hc he<|bE<|XM T.at_ ?_;rw[show(kY C::bm).contains (.type "Exception")=ae from rg (dc rfl) T.only];exact aI<|aI<|aI<|Hc he<|bE<|aI<|aI<|aI<|sM T.at_<|bE<|bE<|bE<|aI<|bE<|wpAny_onRaise<|cV (check_star_args _ _ _ _ _ _) f
end
section
variable{prog:fO}{w:eh}{A:bL}{R:gP->az->Prop}{h:eM}{g:Array GenState}{d:Drawn}{t:Nat}{os:ra}{E:Ar}
variable{nm q:Str}{C N:aH}{bs bm:Ld}{sn:List Str}{sub:Ld}{ab:Bool}{col:Option Bool}{dd:Option aH}{k0 k1 k2 k3 k5:Option ar}
noncomputable abbrev te(C t:aH):Obj:={cls:=.ref C,data:=.fields #[.ref t,.none,.none,.none,.bool aq,.none]}
theorem agM(T:u7 h C N bm nm q bs sn sub ab col dd k0 k1 k2 k3 k5)
  (a:R (.ok<|.ret<|.ref<|h.objs.size+1) ⟨(h.push {cls:=.type "tuple",data:=.seq rest.toArray}).push<|te C h.objs.size,g,d,t,os⟩)(b:rest.length<=sizeLine:=by size_fits):
  codeAny (model prog w) A (.builtin "Exception.__new__" ⟨.ref C::rest,[]⟩) R ⟨h,g,d,t,os⟩:=by
 have F:=ND;have B:=T.at_;have M:=F.ends;have O:(kY C::bm).contains (.type "Exception")=ae:=rg (dc rfl) T.only;have E:(kY C::bm).contains (.type "AttributeError")=aq:=rg (dc rfl) T.only;have J:(kY C::bm).contains (.type "NameError")=aq:=rg (dc rfl) T.only;refine codeAny_builtinAt F.entry ?_;unfold Builtin.«BaseException.__new__»;refine apb (apb (PySem.wpAt_stack λp below=>apc ?_));wp_walk;refine apc ?_;rw[F.owner];repeat(first|with_reducible refine wpAny_madeHere_exc F.canon B ?_|with_reducible refine Hc B ?_|(with_reducible refine XM B ?_;first|rewrite(occs:=.all) [O]|rewrite(occs:=.all) [E]|rewrite(occs:=.all) [J])|wp_step)
 rw[za ..];exact a
end
theorem O4{R:gP->az->Prop}(c:s.heap.get? C=aa d)(hd:d.data=.cls cd)
  (Lc:iu (model prog w) s.heap (specialOf (.ref C) "__call__") (aa<|.builtin "type.__call__"))(g:iu (model prog w) s.heap (isInstance (.ref C)<|.type "type") ae)
  (h:aD (model prog w) (A.under<|.builtin "type.__call__" ⟨.ref C::rest,[]⟩) (Builtin.«type.__call__» ⟨.ref C::rest,[]⟩) (λfin b=>match fin with|.done f=>R (.ok f) b|.again c'=>c'.quiet=ae/\cM (model prog w) A c' R b) (λe b=>R (.error e) b) s):
  cM (model prog w) A (.call (.ref C) ⟨rest,[]⟩) R s:=by
 refine P.ll rfl<|P.bz<|sM c ?_;rw[hd];refine P.bz<|Lc.here ?_;dsimp only;rw[tc_bind ..];refine P.bind<|P.pure<|P.bind<|P.pure<|P.pure (a:=Fin.again<|.call (.builtin "type.__call__") ⟨.ref C::rest,[]⟩)<|And.intro rfl<|P.ll rfl ?_;refine(?_:aD _ A.in1 (do checkBuiltinCall "type.__call__" ⟨.ref C::rest,[]⟩;again (.builtin "type.__call__" ⟨.ref C::rest,[]⟩)) _ _ s);exact P.bz (@XI (model prog w) _ _ s "type.__call__" "type" "__call__" (.ref C) rest [] _ tc_kind tc_split g (tc_args _ _ _) (P.pure ⟨Xe _ (by decide+kernel),P.Ht rfl entry_typeCall h⟩))
theorem O5{R:gP->az->Prop}(hm:iu (model prog w) s.heap (mroOf<|.ref C) (c::j))(J3:iu (model prog w) s.heap (Bind.madeBy<|.ref C) (aa newId))
  (Kw:∀(d:gP->az->Prop),d (.ok<|.ret<|.ref x) s1->codeAny (model prog w) g (.call (.builtin newId) ⟨.ref C::rest,[]⟩) d s)(alB:iu (model prog w) s1.heap (isInstance (.ref x)<|.ref C) ae)(h:iu (model prog w) s1.heap (typeOf<|.ref x) (.ref C))
  (hi:iu (model prog w) s1.heap (typeLookup (.ref C) "__init__") (aa<|.ref b))(hb:iu (model prog w) s1.heap (bindSpecial (.ref b)<|.ref x) (.ref b,[.ref x]))
  (i:cM (model prog w) g (.call (.ref b) ⟨.ref x::rest,[]⟩) (InitBack x R) s1):
  aD (model prog w) g (Builtin.«type.__call__» ⟨.ref C::rest,[]⟩) (λfin a=>match fin with|.done f=>R (.ok f) a|.again c'=>c'.quiet=ae/\cM (model prog w) A c' R a) (λe a=>R (.error e) a) s:=by
 unfold Builtin.«type.__call__»;refine(?_:aD _ _ (if (kY C==y7 "type")=ae then _ else _) _ _ _);rw[aB (by simp)];refine P.bz<|hm.here ?_;rw[aB (by simp)];refine P.bz<|J3.here<|P.bind<|P.pure<|P.bind<|P.holding<|P.call<|P.code<|Kw _<|P.bz<|alB.here ?_;rw[aB<|dc rfl];refine P.bind<|P.holding ?_;unfold callSpecial? specialOf;refine P.bz (aI (h.here (hi.here (P.holding (P.bz (hb.here (P.bind (P.call (P.qa i λr M B=>?_)))))))));rcases r with e|(v|_|_|_)<;>first|exact B|exact B.elim|skip
 have E:=B;clear B;refine aW E λJ B=>?_;refine rws J<|P.pure ?_;dsimp only;rw[aB (by simp)];exact P.pure B
end
end
section
open PySem PySem.Calls PySem.W PyProof.Rows
structure UX(C:Cx)(c fI:aH):Prop where
 makes:makesIn C.K c=ae
 init:findIn C.K (.ref c) "__init__"=aa (aa<|.ref fI)
 fn:typeIn C.K (.ref fI)=aa (.type "function")
section
variable{C:Cx}{s:az}{F:Fz}{ι:lk}{m:J}{fr:List gA}
theorem adZ{K:fg}(e:makesIn K c=ae):∃cd a,K.lookup c=aa a/\a.data=.cls cd/\cd.mro.isEmpty=aq:=by unfold makesIn at e;induction h:K.lookup c using aO with|none=>rw[h] at e;exact dG e|some o=>rw[h] at e;obtain⟨a,m,dt,s⟩:=o;induction dt using Xz with|cls cd=>exact fX cd _ rfl rfl ((zi _).mp (mh e λe _=>mh e λe _=>mh e λe _=>mh e λe _=>(Bool.and_eq_true_iff.mp e).2))|_=>exact dG e
noncomputable def AQ(v:V)(q:R V):R V:=match q with|.ok .none m=>.ok v m|.exc y m=>.exc y m|_=>.H
theorem agN(h:AQ v (.ok d m')=r)(hb:r≠.H):d=.none/\.ok v m'=r:=by induction d using V.casesOn with|none=>exact⟨rfl,h⟩|_=>exact aT h.symm hb
theorem ad0(i:Wd C F)(cY:St C s F ι F ι m s)(hg:C.mg (Nm.toStr x)=aa (.ref c))(a:s.heap.objs.size=D)(hh:(s.heap.push emptyDict).push (instObj c D)=h'):
  ∃d f,St C s F ι d f (m++[.aA []]) {s with heap:=h'}/\Le F d/\Pre ι f/\Rl C d f (.ref<|D+1) (.inst x m.length)/\h'.get? (D+1)=aa (instObj c D)/\∀b o,s.heap.get? b=aa o->h'.get? b=aa o:=by
 have P:s.heap.get? D=ag:=a▸rn s.heap;have E:(s.heap.push emptyDict).objs.size=D+1:=a▸za ..;have R:(s.heap.push emptyDict).get? D=aa emptyDict:=a▸mT _ rfl;have S:(D==sysModules)=aq:=by refine vL (i.g _ cY.fz) λo Z Z h Z=>?_;exact beq_eq_false_iff_ne.mpr λe=>aT (i7 h) (by rw[a,e];decide)
 have T:=cY.jz P;have J:=(cY.grow (t:=s.toks) λb o e=>eT emptyDict e).Eh T R (o:=.aA []) (.aA (cv rfl rfl rfl) rfl .nil) S;have M:=J.jz (E▸rn (s.heap.push emptyDict));have O:h'.get? (D+1)=aa (instObj c D):=by subst hh;exact E▸mT _ rfl
 have g4:=(J.grow (t:=s.toks) (h':=h') λb o e=>by subst hh;exact eT _ e).freeze M O;have B:(ι++[D])[m.length]?=aa D:=by rw[<-cY.len,nS<|dR _,k7 ..];rfl
 exact yD _ _ g4 (.put M.fr) (Pre.append ι [D]) (rws (Hx x)<|Rl.inst hg (Fz.m6 ..) B) O (λb o e=>by subst hh;exact eT _ (eT _ e))
theorem aca(je:Frs s.heap F ι fr)(g4:St C s F ι b c m1 s1)(rx:Rl C b c (.ref I) v)(hr:AQ v q=r)(hb:r≠.H)(f:nu C s1 b c fr q i j):InitBack I (nu C s F ι fr r) i j:=by
 cases f with
 |ok u d m B E J M st g=>
  subst J M;exact aW (agN hr hb) λR S=>⟨tv<|rws R g,.ok _ v m B E rfl S.symm (g4.trans st)<|rx.mono st.f0 st.i0⟩
 |ex e why m B E J M st T=>
  subst J M;exact .ex e why m B E rfl hr.symm (g4.SG st (λa O=>(je.place O).elim λZ h=>h.2.2.2) λa O=>.inl O) (nE T λy V Y k l P=>aW P λP n=>
   (ee y V Y k l P λa o t=>aW (n a o t) λp h=>⟨⟨g4.rI p.new,p.fr,p.ni⟩,h⟩))
theorem call_cls{X:Fx}(f:UX X.C c w)(hg:X.C.mg (Nm.toStr x)=aa (.ref c))(hF:qx X.C w params body scope eD)(y:X.ns=lV params scope)(z:X.sc=scope)(G:X.ro=aq)(I:gO X body L)(N:nA params scope eD.length=ae)(Q:X.top=aq)
  {l:mV}{vals:Ld}{A:bL}(U:cI (X.n+1) A fr)(je:Frs s.heap F ι fr)(i:Wd X.C F)(cY:St X.C s F ι F ι m s)(hl:aU X.C F ι vals l){r:R V}
  (hr:AQ (.inst x m.length) (hH X.ok X.κ ⟨params.args.length,eD,(lV params scope).length-params.args.length,L⟩ (.inst x m.length::l)<|m++[.aA []])=r)(hb:r≠.H):
  cM X.C.md A (.call (.ref c) ⟨vals,[]⟩) (nu X.C s F ι fr r) s:=by
 have B:=i.k _ cY.fz;refine cP (adZ f.makes) λcd W hK J Y=>?_;have af:=makes_of (M:=X.C.md) B f.makes;generalize j:s.heap.objs.size=D;generalize o:(s.heap.push emptyDict).push (instObj c D)=p;refine e26 (ad0 i cY hg j o) λF1 ji g4 E Z u o3 k=>?_;have O:=RP hF y z G I N (λh=>nomatch Q.symm.trans h) (vals:=.ref (D+1)::vals) (U.make c vals) (je.keep g4) (i.mono E) g4.start (.cons u<|hl.mono E Z) rfl λe=>hb<|hr.symm.trans<|aw (AQ _) e;obtain⟨S,T,Kx⟩:∃S T,cd.mro=S::T:=by induction q:cd.mro using dz with|nil=>rw[q] at Y;exact ia Y|cons a b=>exact gM a b rfl
 have hc:clsIn X.C.K c=aa cd:=by unfold clsIn;rw[hK];obtain⟨_,_,dt,_⟩:=W;dsimp only at J;subst J;rfl
 have hm:iu X.C.md s.heap (mroOf<|.ref c) (S::T):=rws Kx<|(CH B hc).andThen .now;have v:iu X.C.md p (typeOf<|.ref<|D+1) (.ref c):=(CB o3).andThen .now;refine O4 (B _ _ hK) J af.call af.typ (O5 (x:=D+1) (s1:={s with heap:=p}) hm af.made (λR' L2=>?_) (v.andThen<|af.self.keeps k) v ((CN B f.init).keeps k) ((bind_fn B _ f.fn).keeps k) (P.qa O λr' s' hq=>aca je g4 u hr hb hq));obtain⟨hh0,g,d,t,os⟩:=s;subst j o;exact new_K af (CN B f.init) (.inl rfl) L2
end
end
section
open PySem PySem.Calls PySem.W PyProof.Rows
open Sem (wp)
section
variable{prog:fO}{w:eh}{A:bL}{E:Ar}{s:az}{env:gA}{K:fg}
theorem ad1{os:ra}{C N:aH}{bs f:Ld}{i:List Str}{sub:Ld}{j:Bool}{a:Option Bool}{k:Option aH}{l k1 k2 m n:Option ar}
  (T:u7 h C N f nm q bs i sub j a k l k1 k2 m n){e:aH}{b:Obj}{vs:Array ar}{o:aH}{rest:Ld}(he:h.get? e=aa b)(p:b.cls=.ref C)(hd:b.data=.fields vs)(c:vs[0]?=aa (.ref o)){Q:Ar}(r:rest.length<=sizeLine)
  (u:Q .none ⟨(h.push {cls:=.type "tuple",data:=.seq rest.toArray}).update e (pQ (·.setIfInBounds 0 (.ref h.objs.size))),g,d,t,os⟩):
  wpAny (model prog w) A (wA (.builtin "Exception.__init__") (.ref e::rest)) Q E ⟨h,g,d,t,os⟩:=by
 have F:=ND;refine XJ<|XH F.init.plain F.initEntry<|YM T he p ?_;unfold Builtin.«BaseException.__init__»;dsimp only;rw[aB (by simp)];have B:=(Array.getElem?_eq_some_iff.mp c).1;have s:=eT (h:=h) {cls:=.type "tuple",data:=.seq rest.toArray} he;refine aI (sH (aI<|aI<|jX s hd c<|aI<|CC s hd B ?_) (by refine(?_:rest.toArray.size<=sizeLine);rw[Nw];exact r));exact wpAny_letGo<|bE u
theorem acb(hk:env.scope.kind=.function)(hx:env.kindOf "Exception"=aa .globalImplicit)(hs:env.kindOf "self"=aa .local)(c:env.kindOf "why"=aa .local)
  (b:s.heap.Ns env.locals m)(h1:m "self"=aa (.ref e))(h2:m "why"=aa v){mg mb:Str->Option ar}(hg:s.heap.Ns env.globals mg)(d:mg "Exception"=ag)(f:s.heap.Ns env.builtins mb)(a:mb "Exception"=aa (.type "Exception"))(g:(ap.endLine==pos.line)=ae)
  (hc:∀i,wpAny (model prog w) A (wA (.builtin "Exception.__init__") [.ref e,v]) Q E {s with toks:=i}):
  aD (model prog w) A (eval (.Call (.Attribute (.Name "Exception" p1) "__init__" ap) [.Name "self" p2,.Name "why" p3] [] pos) env) Q E s:=by
 rw[arm_eval_Call ..];refine P.bind<|P.of<|GS hk hx<|loadGlobal_builtin hg d f a<|P.bind<|P.standAt ?_;have B:starEach [.Name "self" p2,.Name "why" p3] env=[(aq,eval (.Name "self" p2) env),(aq,eval (.Name "why" p3) env)]:=rfl;have J:methodCallForm (([.Name "self" p2,.Name "why" p3]:List bj).length+([]:List Keyword).length) (backTo pos<|starEach [.Name "self" p2,.Name "why" p3] env) (backToKw pos<|keywordEach [] env)=ae:=by rw[B];rfl
 have M:methodCallPos ae (.Name "Exception" p1) env ap pos=nN pos:=by unfold methodCallPos;simp[g]
 rw[J];refine P.bind<|P.holding<|P.of<|Y7<|P.bz<|cV M ?_;rw[B];exact P.callWith_of (K:=[]) (P:=λZ=>True) rfl (λh Z=>i12 (.machine) (.inr<|.inl rfl)<|.of_pure rfl)<|P.evalArgs_plain<|uM (pos:=pos)<|P.of<|GQ<|GR hk hs b h1<|uM (pos:=pos) (rest:=[])<|P.of<|GQ<|GR hk c b h2<|P.of<|GP ⟨trivial,P.of<|hc _⟩
theorem HB(hk:env.scope.kind=.function)(hs:env.kindOf x=aa .local)(a:s.heap.Ns env.locals m)(h1:m x=aa v)(hd:(x==("__debug__":Str))=aq)(q:Q v s):aD (model prog w) A (eval (.Name x p) env) Q E s:=
 P.of (GQ (GR hk hs a h1 q) hd)
theorem O6(d:swapsWith rhs (aa<|.Attribute (.Name "self" p1) a p2) pos.line env=pure aq)(e:swappedStores [.Attribute (.Name "self" p1) a p2] rhs env=pure ag)
  (h:aD (model prog w) A (eval rhs env) (λv s1=>aD (model prog w) A (eval (.Name "self" p1) env) (λo b=>aD (model prog w) A (CG o a v) (λZ c=>Q .next c) E b) E s1) E s):
  aD (model prog w) A (exec (.Assign [.Attribute (.Name "self" p1) a p2] rhs pos) env) Q E s:=by
 rw[G8 ..];refine P.bind<|P.standAt<|P.bz<|cV d ?_;rw[aB dq];refine P.bind (P.mono h (λv s1 B=>P.bz<|cV e ?_) λZ Z y=>y);refine(?_:aD _ _ (assign (.Attribute (.Name "self" p1) a p2) env v>>=λZ=>pure Flow.next) _ _ _);rw[ao2 ..];exact P.bind (P.bind (P.holding (P.mono B (λo b J=>P.bind (P.standAt (P.bind (P.holding (P.mono J (λZ c K=>P.of<|G6<|P.pure K) λZ Z y=>y))))) λZ Z y=>y)))
end
set_option genCtorIdx true in
structure IP where
 (p1 ap p2 p3 cp sp a1 a2 a3 ap' b1 b2 b3 b4 bp q1 q2:Pos)
noncomputable def initParams(i:IP):nT:={posonlyargs:=[],args:=[{arg:="self",annotation:=ag,pos:=i.q1},{arg:="why",annotation:=ag,pos:=i.q2}],vararg:=ag,kwonlyargs:=[],kw_defaults:=[],kwarg:=ag,defaults:=[]}
noncomputable def oa:d5:={kind:=.function,names:=[("self",.local),("why",.local),("Exception",.globalImplicit)],isGenerator:=aq,isCoroutine:=aq,more:=[]}
noncomputable def ti(i:IP):List iv:=[
 .Expr (.Call (.Attribute (.Name "Exception" i.p1) "__init__" i.ap) [.Name "self" i.p2,.Name "why" i.p3] [] i.cp) i.sp,
 .Assign [.Attribute (.Name "self" i.a1) "why" i.a2] (.Name "why" i.a3) i.ap',
 .Assign [.Attribute (.Name "self" i.b1) "at" i.b2] (.UnaryOp .USub (.Constant (.int 1) 0 i.b3) i.b4) i.bp]
set_option genCtorIdx true in
structure MP where
 (c fI N:aH)(bm:List ar)(nm q:Str)(bs:List ar)(sn:List Str)(sub:List ar)(ab:Bool)(col:Option Bool)(dd:Option aH)(k0 k1 k2 k3 k5:Option ar)(i:IP)
noncomputable def MP.obj(z:MP):Obj:=excClassObj z.nm z.q z.c z.N z.bs z.bm ae z.sn z.sub z.ab z.col z.dd z.k0 z.k1 z.k2 z.k3 z.k5 "Exception.__new__"
noncomputable def MP.cd(z:MP):ClassData:={name:=z.nm,bases:=z.bs,mro:=.ref z.c::z.bm,ns:=z.N,qualname:=z.q,hasDict:=ae,slotNames:=z.sn,subclasses:=z.sub,abstract:=z.ab,collection:=z.col,hasDel:=aq}
noncomputable def MP.In(z:MP)(h:eM):Prop:=u7 h z.c z.N z.bm z.nm z.q z.bs z.sn z.sub z.ab z.col z.dd z.k0 z.k1 z.k2 z.k3 z.k5
structure oF(C:Cx)(z:MP):Prop where
 mg:C.mg (Nm.toStr An)=aa (.ref z.c)
 kept:keepIn C.K (.ref z.c)=ae
 cls:C.K.lookup z.c=aa z.obj
 only:lX (.ref z.c::z.bm)=ae
 init:findIn C.K (.ref z.c) "__init__"=aa (aa<|.ref z.fI)
 fn:typeIn C.K (.ref z.fI)=aa (.type "function")
 UY:findIn C.K (.ref z.c) "__setattr__"=aa (aa<|.builtin "object.__setattr__")
 why:takerIn C.K z.c "why"=aa ag
 ga:findIn C.K (.ref z.c) "__getattribute__"=aa (aa<|.builtin "BaseException.__getattribute__")
 hook:findIn C.K (.ref z.c) "__getattr__"=aa ag
 anp:findIn C.K (.ref z.c) "why"=aa ag
 at_:takerIn C.K z.c "at"=aa ag
 call:specialIn C.K (.ref z.c) "__call__"=aa (aa<|.builtin "type.__call__")
 inst:instIn C.K (.ref z.c) (.type "type")=aa ae
 isI:qx C z.fI (initParams z.i) (ti z.i) oa []
 exc:C.mg "Exception"=ag
 line:(z.i.ap.endLine==z.i.cp.line)=ae
noncomputable abbrev AR(c t d:aH):Obj:={cls:=.ref c,dict:=aa d,data:=.fields #[.ref t,.none,.none,.none,.bool aq,.none]}
section
variable{C:Cx}{prog:fO}{w:eh}{A:bL}{s:az}{K:fg}{z:MP}
theorem oF.in(a:oF C z)(X:C.K.In h):z.In h:=⟨X _ _ a.cls,a.only⟩
theorem MP.In.out(T:z.In h):u7 h z.c z.N z.bm z.nm z.q z.bs z.sn z.sub z.ab z.col z.dd z.k0 z.k1 z.k2 z.k3 z.k5:=T
theorem oF.wa(a:oF C z):clsIn C.K z.c=aa z.cd:=by unfold clsIn;rw[a.cls];rfl
theorem alC{h:eM}(he:h.get? e=aa (te c t)):(h.update e (pQ (·.setIfInBounds 0 (.ref t')))).get? e=aa (te c t'):=
 pK _ he rfl
theorem acd(f:oF C z){env:gA}{F:Fz}(X:C.K.In s.heap)(hF:∀h:eM,(∀a o,F a=aa o->h.get? a=aa o)->h.Ns mainGlobals C.mg/\h.Ns builtinsNs C.mb)
  (yP:∀a o,F a=aa o->s.heap.get? a=aa o)(p:C.mb "Exception"=aa (.type "Exception"))
  (r:env.scope=oa)(u:env.globals=mainGlobals)(y:env.builtins=builtinsNs)(hN:s.heap.Ns env.locals m)(h1:m "self"=aa (.ref e))(h2:m "why"=aa v)(he:s.heap.get? e=aa (te z.c t0))(j:env.locals≠e)(Ge:∀o,C.K.lookup e≠aa o)
  {Q:nR->az->Prop}{E:Ar}
  (hQ:∀h' tk d t1 k tb tc,(∀b o,b≠e->s.heap.get? b=aa o->h'.get? b=aa o)->h'.get? e=aa (AR z.c t1 d)->d≠e->s.heap.get? d=ag->env.locals<d->h'.get? d=aa (dictOf [⟨hashStr w "why",.str "why" k,v⟩,⟨hashStr w "at",.str "at" tb,.int (-1) tc⟩] 2)->Q .next {s with heap:=h',toks:=tk}):
  aD (model prog w) A (execs (ti z.i) env) Q E s:=by
 have D:∀x,env.kindOf x=oa.names.lookup x:=λx=>by unfold Env.kindOf;rw[r]
 have M:env.scope.kind=.function:=by rw[r];rfl
 have H:env.kindOf "self"=aa .local :=by rw[D ..];rfl
 have UZ:env.kindOf "why"=aa .local :=by rw[D ..];rfl
 have I:env.kindOf "Exception"=aa .globalImplicit:=by rw[D ..];rfl
 have hint:interactive env=aq:=by unfold interactive;rw[r];rfl
 have T:z.In s.heap:=f.in X;refine jQ hN λO es R J S V Y=>?_;have wa:=f.wa;rw[execs_cons ..,arm_exec_Expr ..];refine P.bind<|P.bind<|P.standAt ?_;rw[aB (by rw[hint];exact dq)];refine P.bz<|cV (a:=aq) rfl ?_;rw[aB dq];refine P.bind (acb M I H UZ (ee O es R J S V Y) h1 h2 (by rw[u];exact(hF _ yP).1) f.exc (by rw[y];exact(hF _ yP).2) p f.line λtk=>?_);obtain⟨B,g,d,t,os⟩:=s;refine ad1 (rest:=[v]) (MP.In.out T) he rfl rfl rfl (by rw[CI];refine(?_:1<=16777216);decide) ?_;refine P.pure ?_;dsimp only at X yP he J⊢;have e1:(B.push {cls:=.type "tuple",data:=.seq #[v]}).get? e=aa (te z.c t0):=eT _ he;have L:=alC (t':=B.objs.size) e1;have k2:∀b o,b≠e->B.get? b=aa o->((B.push {cls:=.type "tuple",data:=.seq #[v]}).update e (pQ (·.setIfInBounds 0 (.ref B.objs.size)))).get? b=aa o:=λb o l z=>(Nx _ _<|nQ l).trans<|eT _ z;generalize hG:(B.push {cls:=.type "tuple",data:=.seq #[v]}).update e (pQ (·.setIfInBounds 0 (.ref B.objs.size)))=G at*;have X2:C.K.In G:=λa o z=>k2 a o (λq=>Ge o<|rws q z)<|X a o z;have N2:G.Ns env.locals m:=ee O es R (k2 _ _ j J) S V Y;rw[execs_cons ..];refine P.bind (O6 rfl (by rfl) (HB M UZ N2 h2 (dc rfl) (HB M H N2 h1 (dc rfl) (P.of (adX (cd:=_) X2 L rfl (λcd z=>by cases z) rfl (λd=>rfl) f.UY wa f.only rfl rfl f.why λh3 N k d3 U B6=>?_)))));dsimp only at d3 U B6⊢;have X3:C.K.In h3:=λa o z=>B6 a o (λq=>Ge o<|rws q z)<|X2 a o z;have N3:h3.Ns env.locals m:=ee O es R (B6 _ _ j<|k2 _ _ j J) S V Y;have V3:B.get? G.objs.size=ag:=by
  induction q:B.get? G.objs.size using aO with|none=>rfl|some o=>
   by_cases z:G.objs.size=e
   ·have:=i7 L;rw[z] at this;exact aT this<|sL _
   ·have:=i7<|k2 _ _ z q;exact aT this<|sL _
 have et:G.objs.size≠e:=λz=>by have:=i7 L;rw[z] at this;exact aT this<|sL _
 have L4:env.locals≠G.objs.size:=λz=>by have:=i7<|k2 _ _ j J;rw[z] at this;exact aT this<|sL _
 rw[execs_cons ..];refine P.bind (O6 rfl (by rfl) (P.UnaryOp_ (P.of (wpAny_Constant_int (P.of (aoB (HB M H (m:=m) (ee O es R (B6 _ _ j<|k2 _ _ j J) S V Y) h1 (dc rfl) (P.of (adY (cd:=_) (es:=[⟨hashStr w "why",.str "why" k,v⟩]) (n:=1) X3 U rfl rfl d3 (by rfl) (by simp) f.UY wa f.only rfl rfl f.at_ λh4 W tb d4 Z=>P.of<|CD ?_)))))))));dsimp only at d4 Z⊢;refine hQ h4 W G.objs.size B.objs.size k tb (N+1) (λb o l z=>Z b o (λq=>?_)<|B6 b o l<|k2 b o l z) (Z e _ et.symm U) et V3 (i7<|k2 _ _ j J) ?_
 ·rw[q,V3] at z;exact bk z
 ·exact d4
theorem ad2(l:oF C z){n:Nat}{fr:List gA}{v:ar}(X:C.K.In s.heap)(f:Wd C F)(yP:∀a o,F a=aa o->s.heap.get? a=aa o)(he:s.heap.get? e=aa (te z.c t0))(y:∀o,C.K.lookup e≠aa o)(D:A.depth<recursionLimit){R:gP->az->Prop}
  (hR:∀h' m d t1 j tb k,(∀b o,b≠e->s.heap.get? b=aa o->h'.get? b=aa o)->h'.get? e=aa (AR z.c t1 d)->d≠e->s.heap.objs.size<d->h'.get? d=aa (dictOf [⟨hashStr C.w "why",.str "why" j,v⟩,⟨hashStr C.w "at",.str "at" tb,.int (-1) k⟩] 2)->R (.ok<|.ret .none) {s with heap:=h',toks:=m}):
  cM C.md A (.call (.ref z.fI) ⟨[.ref e,v],[]⟩) R s:=by
 refine gl λG0 G=>?_;refine l.isI.obj _ λoc od LY name qual H L S N Q U W hK Z pj=>?_;refine cP (Ta (F:=F) (ι:=[]) X pj) λdv r v9 L0 Bv=>?_;refine G ?_;have T:dv=[]:=sR v9.length;generalize B:fnOf name qual (initParams z.i) (ti z.i) oa H L S N Q U W=fd at hK;have J2:BindsTo s fd ⟨[.ref e,v],[]⟩ [("self",.ref e),("why",v)]:=by subst B T;exact O1 (vals:=[.ref e,v]) (dv:=[]) (ps:=["self","why"]) (r:=r) rfl rfl rfl rfl rfl (dc rfl) (dR _) (dR _) (nP _) L0 Bv
 have J:fd.scope=oa:=rws B rfl;refine P.Oa (fd:=fd) (body:=ti z.i) D (X _ _ hK) rfl (aw Scope.isCoroutine J) (aw Scope.isGenerator J) (rws B rfl) (rws B<|codeRec_of X Z)<|J2 _ _ _ _ ?_;rw[show fd.closure=[] from B▸rfl];refine apa (aw Scope.kind J) (λx M=>.inl ?_) λE O s1 I=>?_
 ·rw[J];exact(sS.mp M).elim (λe=>by subst e;rfl) λM=>(sS.mp M).elim (λe=>by subst e;rfl) λM=>nomatch M
 ·refine fw I.done λh2 m V Bc=>?_;have kk:∀b o,s.heap.get? b=aa o->s1.heap.get? b=aa o:=λb o e=>rwl V<|Bc b o e;have Y:E.locals=s.heap.objs.size:=rwl O rfl;have p:E.scope=oa:=rwl O J;have t:∀x,E.kindOf x=oa.names.lookup x:=λx=>aw (λc:d5=>c.names.lookup x) p;have u:[("self":Str),"why"].Nodup:=dc rfl;refine⟨f.lim _ λa o e=>kk a o<|yP a o e,P.func (acd l (F:=F) (λa o e=>kk a o<|X a o e) (λh z=>⟨f.g h z,f.b h z⟩) (λa o e=>kk a o<|yP a o e) ((f.bt _<|dc rfl).trans (by first|rfl|kernel_rfl|decide+kernel)) p (O▸(rws B rfl:fd.globals=mainGlobals)) (O▸(rws B rfl:fd.builtins=builtinsNs)) I.toInCall.ns (e:=e) (v:=v)
   ((Iw (x:="self") (t _) (b:=[("self",.ref e),("why",v)]) u).trans rfl) ((Iw (x:="why") (t _) (b:=[("self",.ref e),("why",v)]) u).trans rfl) (kk _ _ he) (λq=>aT (i7 he) (by rw[<-q,Y];exact sL _)) y
   λh' vM d t1 j tb k kb L6 L7 T Gg nJ=>?_)⟩
  rw[V];exact hR h' vM d t1 j tb k (λb o hb e=>kb b o hb<|kk b o e) L6 L7 (rws Y Gg) nJ
theorem ad3(f:oF C z){n:Nat}{ι:lk}{fr:List gA}(H:cI n A fr)(l:Wd C F)(cY:St C s F ι F ι m s){v:ar}{y:Nm}(hv:Rl C F ι v (.str y)){R:gP->az->Prop}
  (hR:∀i x t1 d j,St C s F ι j ι m i->Le F j->Pv s j ι x->i.heap.get? x=aa (AR z.c t1 d)->TX C j d y->R (.ok<|.ret<|.ref x) i):
  cM C.md A (.call (.ref z.c) ⟨[v],[]⟩) R s:=by
 have X:=l.k _ cY.fz;have T:=f.in X;have I:iu C.md s.heap (mroOf<|.ref z.c) (.ref z.c::z.bm):=(CH X f.wa).andThen .now;have L:iu C.md s.heap (Bind.madeBy<|.ref z.c) (aa "Exception.__new__"):=λA Q E i N q=>wpAny_madeBy_exc (N _ _<|X _ _ f.cls) q;obtain⟨h,g,U,W,os⟩:=s;generalize B:h.objs.size=D at*;generalize K:(h.push {cls:=.type "tuple",data:=.seq #[v]}).push (te z.c D)=J;have V:(h.push {cls:=.type "tuple",data:=.seq #[v]}).objs.size=D+1:=rws B<|za ..;have Y:J.get? (D+1)=aa (te z.c D):=by subst K;exact rws V<|mT _ rfl
 have k:∀b o,h.get? b=aa o->J.get? b=aa o:=λb o e=>by subst K;exact eT _<|eT _ e
 have p:J.objs.size=D+2:=by subst K;rw[za ..,V]
 have M:h.get? (D+1)=ag:=XE<|rws B<|g0 _;have t1:iu C.md J (typeOf<|.ref<|D+1) (.ref z.c):=(CB Y).andThen .now;refine O4 (X _ _ f.cls) rfl (looks_specialIn X f.call) (looks_instIn X f.inst) (O5 (x:=D+1) (s1:=⟨J,g,U,W,os⟩) I L (λR' L2=>codeAny_call_builtin_code (Xe _ ND.quiet) (Y8 T.out (agM T.out (by subst K B;exact L2) (by rw[CI];refine(?_:1<=16777216);decide))))
  (t1.andThen ((XG X (by unfold mroIn;rw[f.wa];simp[MP.cd])).keeps k)) t1 ((CN X f.init).keeps k) ((bind_fn X _ f.fn).keeps k) ?_)
 refine ad2 f (n:=n) (fr:=fr) (F:=F) (λa o e=>k _ _<|X _ _ e) l (λa o e=>k a o<|cY.fz a o e) Y (λo q=>nomatch M.symm.trans<|X _ _ q) (bS (au (cZ (A.depth+1)<|8*n+39) (dn (by lia)))<|cL H.FU<|dl rfl) λh' vM d t1 ta tb tc kb L6 L7 r O=>?_;have P:=XE (B▸eg (bS (cZ D 2)<|rws p r));have S1:=cY.grow (h':=h') (t:=vM) λb o e=>kb b o (λq=>nomatch M.symm.trans (show h.get? (D+1)=aa o from rws q e))<|k b o e;have u:=cY.jz P;have S:=cY.jz M;have dX:(d==sysModules)=aq:=by refine vL (l.g _ cY.fz) λo Z Z q Z=>?_;exact beq_eq_false_iff_ne.mpr λe=>aT (d7 (B▸i7 q) (bS (cZ D 2) (p▸r))) (by rw[e];decide)
 exact tx (G:=λv=>h'.get? d=aa (dictOf [⟨hashStr C.w "why",.str "why" ta,v⟩,⟨hashStr C.w "at",.str "at" tb,.int (-1) tc⟩] 2)->InitBack (D+1) R (.ok<|.ret .none) _) hv (λy' ty ey O=>⟨rfl,hR _ (D+1) t1 d _ (S1.freeze u O) (.put u.fr) ⟨S.new,(aB<|nQ L7).trans S.fr,S.ni⟩ L6<|sd _ _ 2 (Fz.m6 ..) (cv rfl rfl rfl) rfl (.cons (x:="why") rfl rfl (rws ey<|.str y' ty)<|.cons (x:="at") rfl rfl (.int _ _) .nil) dX⟩) O
end
section
variable{M:mS}{A:bL}{E:Ar}{env:gA}
variable{nm q:Str}{C N:aH}{bs bm:Ld}{sn:List Str}{sub:Ld}{ab:Bool}{col:Option Bool}{dd:Option aH}{k0 k1 k2 k3 k5:Option ar}
theorem aaX{os:ra}(T:u7 h C N bm nm q bs sn sub ab col dd k0 k1 k2 k3 k5)(hh:A.handled=ag)(he:h.get? x=aa (AR C t1 d))(hE:E (.ref x) ⟨h,g,dr,t,os⟩):
  wpAny M A (raiseStmt env (aa<|pure<|.ref x) ag) Q E ⟨h,g,dr,t,os⟩:=by
 have B:=T.at_;have J:(kY C::bm).contains (.type "BaseException")=ae:=rg (dc rfl) T.only;refine aI<|bE ?_;repeat(first|with_reducible refine Hc he ?_|with_reducible refine Hc B ?_|(with_reducible refine XM B ?_;rw[J])|wp_step)
 exact wpAny_raiseNew_none hh hE
end
noncomputable def Fx.pn(X:Fx):Prop:=∃z,oF X.C z
theorem aab(env)(x):raiseStmt env (aa x) ag=x>>=λv=>raiseStmt env (aa<|pure v) ag:=by unfold raiseStmt;simp only[pure_bind]
theorem ad4(W:X.pn)(h:SE X e d)(hp:gS e=ae)(hx:X.sc.names.lookup ("Misused":Str)=aa .globalImplicit):SS X (.Raise (aa<|.Call (.Name ("Misused":Str) H) [e] [] j) ag pos) (.raise d):=.intro λ{K F ι m V s A r Q E} O Y x M l hQ n=>by refine bu W λz R=>?_;rw[arm_exec_Raise ..];refine P.bind<|P.standAt ?_;refine(?_:aD _ _ (raiseStmt K.p (aa (do let v<-eval (.Call (.Name ("Misused":Str) H) [e] [] j) K.p;standAt pos;pure v)) ag) _ _ _);rw[aab ..];refine P.bind (P.bind (Q:=λv u=>aD _ _ (raiseStmt K.p (aa<|pure v) ag) _ _ u) ?_);refine P.Call_Name (P.of (GS O.make.kind ((O.kd _).trans hx) (WZ (by rw[O.make.dB];exact x.wd.g _ x.st.fz) R.mg ?_)<|dc rfl));have w:=Bool.and_eq_true_iff.mpr ⟨hp,rfl⟩;refine P.callWith_of (K:=X.C.K) (P:=λh=>X.C.K.In h) (Hz _ _ w) (keeps_K R.kept)<|Hs w ?_;rw[zw hp];refine uM (pos:=j) (rest:=[]) (h.pg O Y x M l n λv dv I F' L u M N U B r1=>n9 M l λy Z M=>P.of (GP ⟨B.i4,P.call (ad3 R Y B.wd B.st.start (rws y.2 r1) λs2 xa t1 b F2 J S T D LH=>P.bind<|P.standAt<|P.pure<|P.of ?_)⟩));have X2:=(B.wd.mono S).k _ J.fz;obtain⟨hh,g,dr,t,os⟩:=s2;refine aaX (t1:=t1) (d:=b) (R.in X2).out Y.hd D ?_;refine bu B.fm λml G=>?_;have f:=G.move (h':=hh) J.f0 J.i0 λa ob P e=>J.Jj P e;exact n _ _ (.i y.1 F2 L I V (N.trans S) U M.symm ⟨xa,AR z.c t1 b,[],rfl,⟨i12 z.c rfl R.mg,i12 b rfl LH,i12 _ rfl<|.inl ⟨rfl,rfl⟩⟩,(B.after J).st.toX λa ha=>(O.fx.place ha).elim λZ q=>q.2.2.2,⟨ml,G.Ks f (λa o hm=>(sS.mp hm).elim (λq=>rN q λz1 z2=>by subst z1 z2;exact cv ⟨B.st.rI T.new,T.fr,T.ni⟩ D T.new) λq=>nomatch q) (by simp)⟩,(B.after J).wd⟩)
section
open Builtin.ObjectAttr
section
variable{prog:fO}{w:eh}{A:bL}{E:Ar}{s:az}{K:fg}{x C:aH}
theorem ad5(X:K.In s.heap)(hx:s.heap.get? x=aa c)(h:c.cls=.ref C)(i:notCls c=ae)(hd:c.dict=aa d)(j:s.heap.get? d=aa a)(hc:clsIn K C=aa cd)(ho:lX cd.mro=ae)(ne:cd.mro.isEmpty=aq)(hh:cd.hasDict=ae)
  (f:findIn K (.ref C) "__getattribute__"=aa (aa<|.builtin "BaseException.__getattribute__"))(g:findIn K (.ref C) "__getattr__"=aa ag)(k:findIn K (.ref C) "why"=aa ag)(hl:lookIn "why" a=aa (aa v))(hv:handedIn v=ae)(q:Q v {s with toks:=s.toks+1}):
  wpAny (model prog w) A (getAttr (.ref x) "why" ex) Q E s:=by
 have B:iu (model prog w) s.heap (typeOf<|.ref x) (.ref C):=rws h<|(CB hx).andThen .now;have I:InstAt s.heap x c C (aa a):=⟨hx,h,i,by rw[hd];exact j⟩;have J:findObj K C (aa a) "why"=aa (.value v):=by unfold findObj;rw[hc,wM ..,k,wM ..];refine(?_:((aa ag:Option (Option ar)).bind _)=_);rw[wM ..];refine(?_:(aa aq).bind _=_);rw[wM ..];refine(?_:(W.ownOf cd (aa a) "why").bind _=_);unfold W.ownOf;rw[hh,aC rfl];refine(?_:(lookIn "why" a).bind _=_);rw[hl];rfl
 have M:=PySem.F.attr_Exception.ga.bind<|.ref x;have O:(ex&&onTheHeap (He "BaseException.__getattribute__"))=aq:=by induction ex using aS<;>rfl
 have P:(He "BaseException.__getattribute__"==He "object.__getattribute__")=aq:=by decide+kernel
 have R:(onTheHeap (kY C)&&He "BaseException.__getattribute__"==He "object.__getattribute__")=aq:=by rw[P];rfl
 refine aI (Nv (jn (aI (B.keeps (λZ Z e=>e) _ _ _ _ (λZ Z e=>e) (aI (CN X f _ _ _ _ (λZ Z e=>e) ?_))))));dsimp only;rw[aB (by rw[R];exact dq)];refine aI (looks_hook (mc:=.ref C) X (r:=ag) (by refine(?_:(if ae=ae then _ else _)=_);rw[aC rfl];exact g) _ _ _ _ (λZ Z e=>e)<|aI<|Xp<|jn ?_);unfold callGetattribute;rw[aB (by rw[O];exact dq)];unfold boundAndCalled;rw[M];refine aI<|bE ?_;refine(?_:wpAny _ _ (call (.builtin "BaseException.__getattribute__") [.ref x,.str "why" s.toks]) _ _ _);have S:mroIn K C (.type "BaseException")=aa ae:=by unfold mroIn;rw[hc,wM ..,aB (by rw[ne];decide),rg (b:=ae) (dc rfl) ho]
 refine XJ (XH PySem.F.attr_Exception.ga.plain PySem.F.entry_bexc_ga (@XI (model prog w) _ _ {s with toks:=s.toks+1} "BaseException.__getattribute__" "BaseException" "__getattribute__" (.ref x) [.str "why" s.toks] [] _ (by decide+kernel) (by decide+kernel) (B.andThen<|XG X S) (PySem.F.args_bexc_ga _ _) ?_));unfold Builtin.«object.__getattribute__»;refine aI (bE (aI (bE (aI (B _ _ _ _ (λZ Z e=>e) (aI (looks_find X I J _ _ _ _ (λZ Z e=>e)<|bE ?_)))))));refine(?_:wpAny _ _ (handedOut v) _ _ _);rw[handedOut_of hv];exact bE q
end
end
namespace P
section
variable{prog:fO}{w:eh}{A:bL}{s:az}{env:gA}{R:gP->az->Prop}{E:Ar}
theorem Y9
  (h:aD (model prog w) A (eval t env) (λc a=>wpAny (model prog w) A (excMatches e c) (λb d=>R (.ok (if b then .brk else .next)) d) (λZ Z=>False) a) (λZ Z=>False) s):
  cM (model prog w) A (.handlers e [.ExceptHandler (aa t) ag [] pos] env) R s:=by
 refine ll rfl ?_;rw[wJ rfl rfl];refine(?_:aD _ A (do return Fin.done (<-(handleWith e env [.ExceptHandler (aa t) ag [] pos]).onRaise (λx=>do noteFrame x env;theTreesLotGoes x))) _ _ s);exact bind (noRaise (bind (standAt (bind (mono h (λc a B=>bind (standAt (bz (fh B (λb d E=>pure<|pure E) λZ Z x=>x.elim)))) λZ Z x=>x)))))
theorem Yy
  (h:wpAny (model prog w) A (setFlight e ag) (λZ b=>wpAny (model prog w) A (storeName env n e) (λZ c=>aD (model prog w) A (execs (d::body) env) (λf a=>R (.ok f) a) (λZ Z=>False) c) (λZ Z=>False) b) (λZ Z=>False) s):
  cM (model prog w) A (.handlers e [.ExceptHandler ag (aa n) (d::body) pos] env) R s:=by
 refine ll rfl ?_;rw[wJ rfl rfl];refine(?_:aD _ A (do return Fin.done (<-(handleWith e env [.ExceptHandler ag (aa n) (d::body) pos]).onRaise (λx=>do noteFrame x env;theTreesLotGoes x))) _ _ s);exact bind (noRaise (bind (standAt (bz (fh h (λZ b E=>bz (M7 (fh E (λZ c J=>bind (attempt (mono J (λf a B=>pure<|pure B) λx a B=>B.elim))) λZ Z x=>x))) λZ Z x=>x)))))
theorem ZA(j:e≠byPass)
  (h:aD (model prog w) (A.mark<|aa e) (eval t env) (λc a=>wpAny (model prog w) (A.mark<|aa e) (excMatches e c) (λb d=>b=ae/\
   wpAny (model prog w) (A.mark<|aa e) (setFlight e ag) (λZ a=>wpAny (model prog w) (A.mark<|aa e) (storeName env n e) (λZ d=>aD (model prog w) (A.mark<|aa e) (execs (k::body) env)
    (λf g=>wpAny (model prog w) A (do bindName env n .none;unbindBehindTheSuite env n pos) (λZ i=>Q f i) E g) (λZ Z=>False) d) (λZ Z=>False) a) (λZ Z=>False) d) (λZ Z=>False) a) (λZ Z=>False) s):
  aD (model prog w) A (handleBy e env (.ExceptHandler (aa t) (aa n) (k::body) pos::rest)) Q E s:=by
 rw[handleBy];have O:(aa e:Option ar)≠aa byPass:=λx=>j<|bf x;have B:∀{c}{Q}{s},cM (model prog w) (A.mark<|aa e) c (λr J=>match r with|.ok f=>Q f J|.error _=>False) s->aD (model prog w) A (runOwn c env<|aa e) Q E s:=λ{c Q s} S=>by refine onRaise (run (qa S λr J R=>?_) O);induction r using y8 with|ok f=>exact R|error x=>exact R.elim
 refine bind (holding (B (Q:=λf J=>aD _ _ _ _ _ J) (Y9 (mono h (λc a T=>fh T (λb d M=>?_) λZ Z x=>x) λZ Z x=>x))));have V:=M;clear M;refine aW V λY M=>?_;refine rwl Y ?_;rw[aC rfl];refine bind<|pure ?_;dsimp only;rw[aB (by decide)];exact bind (holding (B (Yy (fh M (λZ g l=>fh l (λZ i m=>mono m (λf o P=>bind (holding (of (fh P (λZ Z p=>pure p) λZ Z x=>x)))) λZ Z x=>x) λZ Z x=>x) λZ Z x=>x))))
theorem YN
  (h:aD (model prog w) A body (λf a=>match f with|.next=>aD (model prog w) A orelse Q E a|f=>Q f a)
   (λe a=>wpAny (model prog w) A (noteFrame e env) (λZ c=>wpAny (model prog w) A (setFlight e ag) (λZ d=>aD (model prog w) A (handleBy e env (b::hs)) Q E d) E c) E a) s):
  aD (model prog w) A (tryStmt aq body (b::hs) orelse [] env) Q E s:=by
 refine bind (attempt (mono h (λf a B=>?_) λe a B=>?_))
 ·induction f using GY<;>first|exact B|exact pure B
 ·exact bz (fh B (λZ Z J=>bz J) λZ Z x=>x)
end
end P
section
variable{C:Cx}{K:FC}{F F':Fz}{ι av:lk}{m m':J}{env:Env}{s s':az}{A:bL}{E:Ar}
theorem Fm.alF(fm:Fm C K F ι env h b)(c:K.ns.Nodup)(hk:K.ns[k]?=aa y)
  (hn:h'.Ns K.p.locals a)(d:∀z,z≠y->a z=b z)(hs:dp K.p.locals h h')(e:K.p.kindOf y=aa .local):Fm C K F ι (env.set k .un) h' a:=fm.UR c hk (λo h=>nomatch h) hn d hs e .un
theorem ad6(hl:p.kindOf n=aa .local)(hn:s.heap.Ns p.locals a)
  (hp:(p.scope.kind==.class||(p.scope.kind==.module&&p.locals !=p.globals))=aq)
  (h:∀h' v,h'.Ns p.locals (λz=>if z=n then v else a z)->zd p.locals s.heap h'->Q () {s with heap:=h',toks:=s.toks+1}):
  wpAny M A (do bindName p n .none;unbindBehindTheSuite p n pos) Q E s:=by
 refine aI (M7 (M8 hl hn (λJ m A7=>wpAny_onRaise<|aI<|GH<|aI ?_) hp));unfold deleteName;simp only[hl,hp];rw[aB<|dc rfl];refine aI (wpAny_nsDel_keeps m λC v B F=>?_);simp only[if_true,Option.isSome_some,Bool.not_true,yW,if_false];refine bE<|GH<|h C v ?_<|A7.trans F;have:(λz=>if z=n then v else a z)=λz=>if z=n then v else(if z=n then aa uD else a z):=by
  funext z;by_cases c:z=n
  ·rw[aC c,aC c]
  ·rw[aB c,aB c,aB c]
 rw[this];exact B
end
section
variable{X:Fx}
theorem FS.alI{K:FC}(x:FS C (K.hU l) F ι m env s):FS C K F ι m env s:=by refine bu x.fm λB f=>⟨x.st,⟨B,Fm.sub (K:=K.hU l) (l:=K.ex) f (λa o h=>MD _ h) ?_⟩,x.wd⟩;have:=f.jf;exact this.sublist<|ME _<|ao4 _ _
noncomputable abbrev KI(t f w:Str)(a:Str)(p1 p2 p3 b c d:Pos)(k1 k2:Nat):iv:=.Assign [.Name t p1] (.Tuple [.Constant (.str w) k1 p2,.Attribute (.Name f p3) a b] k2 c) d
theorem ad7(h:look (aF "why") [([119,104,121],V.str why),([97,116],V.int<|-1)]=aa d):d=.str why:=(bf h).symm
theorem jb.why{why:Nm}(h:jb C F b c why):∃d a v,b.dict=aa d/\F d=aa a/\lookIn "why" a=aa (aa v)/\Rl C F [] v (.str why):=by
 refine gl λX P=>?_;obtain⟨d,R,a,S,n,T,Y,O,g4,e⟩:=h.dict;refine P ?_;obtain⟨v,B,E⟩:∃v,qV "why" S.toList=aa (aa v)/\Rl C F [] v (.str why):=by
  refine bZ (g4.getL "why") (λJ=>cP J λv d M B E=>?_) λJ=>aW J λM Z=>?_
  ·exact i12 v B<|rws (ad7 M) E
  ·exact nomatch(show aa (V.str why)=ag from M)
 refine ee d a v R T ?_ E
 (induction a using WW with|_ Z Z dt Z)
 dsimp only at O;subst O;exact B
variable{z:MP}
theorem jb.self{why:Nm}(h:jb C F a d why)(b:oF C z):a.cls=.ref z.c:=bo h.cls λc B h2=>B.trans<|bf<|h2.symm.trans b.mg
theorem jb.anv{why:Nm}(h:jb C F a b why):notCls a=ae:=h.data.elim λz q=>by unfold notCls;rw[q.1]
theorem agO(b:oF X.C z){K:FC}(O:X.Of K)(w:FS X.C K F ι m env s)(hn:s.heap.Ns K.p.locals o)(hE:jb X.C F q N why)(hx:s.heap.get? r=aa q)(i:o f=aa (.ref r))(fM:K.p.kindOf f=aa .local)(n:K.p.kindOf t=aa .local)
  (u:X.ns[j]?=aa t)(hc:j<env.length)(x:(f==("__debug__":Str))=aq){p1 p2 p3 D l H:Pos}{k1 k2:Nat}{Q:nR->az->Prop}{E:Ar}(k:∀g h,Le F g->FS X.C K g ι m (env.set j<|.val<|.tup [rJ,.str why]) h->Q .next h):
  aD X.C.md A (execs [KI t f ("fault":Str) ("why":Str) p1 p2 p3 D l H k1 k2] K.p) Q E s:=by
 refine jQ hE.why λd U v J M R B=>?_;have B:=tx (G:=λv=>Rl X.C F ι v<|.str why) B λy t e=>rws e<|.str y t;rw[execs_cons ..,G8 ..];refine P.bind<|P.bind<|P.standAt<|P.bz<|cV (a:=aq) rfl ?_;rw[aB dq];refine P.bind<|P.Tuple_ ?_;refine uM (pos:=l) (P.of (WY (uM (pos:=l) (rest:=[]) (P.OP (P.of<|GQ (GR O.make.kind fM hn i ?_) x) (by rw[arm_eval_Attribute ..];rfl)))));refine P.of<|ad5 (K:=X.C.K) (C:=z.c) w.i4 hx (hE.self b) hE.anv J (w.st.fz _ _ M) b.wa b.only rfl rfl b.ga b.hook b.anp R (Pq B)<|P.of<|GP ?_;have S:aU X.C F ι [.str "fault" s.toks,v] [rJ,.str why]:=.cons (.str "fault" _)<|.cons B .nil;have T:=(w.tok<|s.toks+1).tok<|s.toks+1+1;refine cA (T.El S) λg V Y I=>?_;refine P.of (wpAny_newTuple ?_ (by rw[CI];exact(by decide:2<=16777216)));refine P.bz<|cV (a:=ag) rfl ?_;refine(?_:aD _ _ (assign (.Name t p1) K.p _>>=λZ=>pure Flow.next) _ _ _);rw[Np ..];refine P.bind (P.bind (P.standAt (P.of (Aa (K:=K) Y O.make (k:=j) (y:=t) (rwl O.ns u) hc (by rw[n];rfl) (.inl n) I λh L=>P.pure ?_))));exact P.of<|CD<|k g h V L
theorem FS.Tb{K:FC}(O:X.Of K)(w:FS X.C K F ι m env s)(hm:Fm X.C K F ι env s.heap c)(hf:X.ns[a]?=aa f)(fM:K.p.kindOf f=aa .local)(hn:h4.Ns K.p.locals b)(hz:∀y,y≠f->b y=c y)(hs:zd K.p.locals s.heap h4):
  FS X.C K F ι m (env.set a .un) {s with heap:=h4,toks:=t}/\Fm X.C K F ι (env.set a .un) h4 b:=
 have z:=hm.alF (h':=h4) O.make.nd (k:=a) (y:=f) (rwl O.ns hf) hn hz hs.extBut fM
 ⟨⟨w.st.yk (t:=t) hm.pv hs.extBut,⟨_,z⟩,w.wd⟩,z⟩
theorem ad8(h:a≠b)(e:Env)(v):((e.set a .un).set b v).set a .un=(e.set b v).set a .un:=by rw[List.set_comm _ _ h,wN ..]
theorem ace(d:oF X.C z)(N:X.top=ae){K:FC}(O:X.Of K)(hA:cI X.lv A K.all)(y:oO X.C K F ι m env s U why)(hc:j<env.length/\l<env.length)(hx:K.p.kindOf ("Misused":Str)=aa .globalImplicit)(hf:X.ns[j]?=aa f)(u:X.ns[l]?=aa t)(fM:K.p.kindOf f=aa .local)(W:K.p.kindOf t=aa .local)(et:f≠t)(pj:(f==("__debug__":Str))=aq)
  {Q:nR->az->Prop}{E:Ar}(k:∀e i,Le F e->FS X.C K e ι m ((env.set l<|.val<|.tup [rJ,.str why]).set j .un) i->Q .next i):
  aD X.C.md A (handleBy U K.p [.ExceptHandler (aa<|.Name ("Misused":Str) np) (aa f) [KI t f ("fault":Str) ("why":Str) p1 p2 p3 p4 p5 p6 k1 k2] vC]) Q E s:=by
 refine ui (id y) λJ ox T oT ao hE B=>?_;subst ao;have X2:=B.wd.k _ B.st.fz;refine P.ZA (λh=>nomatch h) (P.of (GS O.make.kind hx (WZ (by rw[O.make.dB];exact B.wd.g _ B.st.fz) d.mg ?_) (by decide)));have vW:=B.at (a:=J) (o:=ox) dE;refine aW (⟨rg (T:="BaseException") (b:=ae) (by decide) d.only,trivial⟩:_/\True) λv Z=>?_
 (induction s using PySem.Shared.casesOn with|_ hp g dr tk os)
 refine wpAny_excMatches_sub_self (X2 _ _ d.cls) vW (hE.self d) (by rw[XF] at v;rwa [show(y7 "BaseException"==kY z.c)=aq from rfl,Bool.false_or] at v) ⟨rfl,DE O.fx y λs3 y3=>?_⟩;refine ui y3 λx0' M w x R S z3=>?_;have R:=pH R;subst R;have D:=FX.am8 z3<|O.top N;have V:X.Of (K.hU [(J,M),(w,x)]):=(O.put w x).put J M;refine bu D.fm λml G=>?_;refine M8 fM G.ns (λh4 H Y=>?_) (by rw[O.make.kind];rfl);refine aW (FS.Tb (t:=s3.toks+1) V D G hf fM H (λz n=>aB n) Y) λw4 f4=>?_;refine agO d V w4 H S (f4.ex J M dE).2.1 (aC rfl) fM W u (by rw[q8];exact hc.2) pj λe i h6 I=>?_;refine bu I.fm λml7 L=>?_;exact ad6 fM L.ns (by rw[O.make.kind];rfl) λh8 v8 q r=>aW (FS.Tb (t:=i.toks+1) V I L hf fM q (λz n=>aB n) r) λw8 Z=>k e _ h6 (ad8 (λh:j=l=>et (bf (hf.symm.trans ((aw (X.ns[·]?) h).trans u)))) env _▸w8).alI
def FD(a b:Nat)(x:Fl):Fl:=match x with|.ex why e m=>if a<e.length/\b<e.length then .nx ((e.set b<|.val<|.tup [rJ,.str why]).set a .un) m else .H|x=>x
theorem aju(W:X.pn)(l:X.ro=aq)(n:X.top=ae)(hb:gO X b j)(hx:X.sc.names.lookup ("Misused":Str)=aa .globalImplicit)(hf:X.ns[a]?=aa f)(o:X.ns[c]?=aa t)(fM:X.sc.names.lookup f=aa .local)(q:X.sc.names.lookup t=aa .local)(u:f≠t)(D:(f==("__debug__":Str))=aq):
  SS X (.Try b [.ExceptHandler (aa<|.Name ("Misused":Str) np) (aa f) [KI t f ("fault":Str) ("why":Str) p1 p2 p3 p4 p5 p6 k1 k2] vC] [] [] pos) (.tZ j a c):=.intro λ{K F ι m B s A r Q E} O R x hr Y hQ hE=>by
 refine bu W λz H=>?_;have hr:FD a c (eC X.ok X.κ B m j)=r:=hr;rw[arm_exec_Try ..];refine P.bind (P.standAt (P.YN (P.mono (hb K F ι m B s A O R x λe=>Y<|hr.symm.trans<|aw (FD a c) e) (λk S T=>match T with|.i I L N U J M V Z=>Z.ind (G:=λy k=>FD a c y=r->(match k with|.next=>aD X.C.md A (execs [] K.p) Q E S|f=>Q f S)) (λh=>P.of<|CD<|hQ.nx J M V h) (λh=>hQ.br J M V h) (λv d g h=>hQ.rt J M V g h) hr)
  λe S T=>match T with|.i why I L N U J M vZ y=>uQ ((aw (FD a c) vZ).symm.trans hr) Y λhc hr=>I2 O R (O.ro.trans l) y λs1 y1=>DE O.fx y1 λs2 y2=>ace H n O R y2 hc ((O.kd _).trans hx) hf o ((O.kd _).trans fM) ((O.kd _).trans q) u D λF6 s7 h6 w=>hQ.nx (J.trans h6) M w hr)))
end
end
section
open PySem PySem.Calls PySem.W PyProof.Rows
theorem b2(h:(a&&b)=ae):a=ae/\b=ae:=Bool.and_eq_true_iff.mp h
theorem sC(h:(a&&b)=ae){G:Prop}(kk:a=ae->b=ae->G):G:=aW (b2 h) kk
theorem b3(h:(a&&b&&c)=ae):a=ae/\b=ae/\c=ae:=sC h λh z=>sC h λx y=>cv x y z
theorem Gh(h:(a&&b&&c)=ae){G:Prop}(kk:a=ae->b=ae->c=ae->G):G:=fW (b3 h) kk
theorem b4(h:(a&&b&&c&&d)=ae):a=ae/\b=ae/\c=ae/\d=ae:=aW (b3 h) λh z=>sC h λx y=>cv x y z
theorem b6(h:(a&&b&&c&&d&&e&&f)=ae):a=ae/\b=ae/\c=ae/\d=ae/\e=ae/\f=ae:=aW (b4 h) λh z=>Gh h λx y w=>lG x y w z
theorem Gi(h:(a&&b&&c&&d&&e&&f)=ae){G:Prop}(kk:a=ae->b=ae->c=ae->d=ae->e=ae->f=ae->G):G:=VF (b6 h) kk
theorem b7(h:(a&&b&&c&&d&&e&&f&&g)=ae):a=ae/\b=ae/\c=ae/\d=ae/\e=ae/\f=ae/\g=ae:=aW (b6 h) λh z=>sC h λx y=>cv x y z
theorem b5(h:(a&&b&&c&&d&&e)=ae):a=ae/\b=ae/\c=ae/\d=ae/\e=ae:=aW (b4 h) λh z=>sC h λx y=>cv x y z
theorem b8(h:(a&&b&&c&&d&&e&&f&&g&&i)=ae):a=ae/\b=ae/\c=ae/\d=ae/\e=ae/\f=ae/\g=ae/\i=ae:=aW (b7 h) λh z=>sC h λx y=>cv x y z
theorem b11(h:(a&&b&&c&&d&&e&&f&&g&&i&&j&&k&&l)=ae):(a=ae/\b=ae/\c=ae/\d=ae/\e=ae)/\f=ae/\g=ae/\i=ae/\j=ae/\k=ae/\l=ae:=K6 (b7 h) λh B E J M O P=>⟨b5 h,B,E,J,M,O,P⟩
theorem yt(h:(!a)=ae):a=aq:=(zi _).mp h
structure Fx.Fits(X:Fx)(c:Cc):Prop where
 ns:c.ns=X.ns.map aF
 sc:X.sc=c.sc
 gl:∀x,c.gl x=ae->X.gl x=ae
 ro:X.ro=c.ro
 W:X.Wf
 At:X.At
 nH:X.nH
 pn:X.pn
 top:c.top=ae->X.top=ae
theorem acf:∀{k j},eU x l k=aa j->∃i,j=k+i/\l[i]?=aa x:=by
 induction l with|nil=>exact λh=>bk h|cons y r B=>
  intro k j h;by_cases c:x=y
  ·exact i12 0 ((bf<|(aC c).symm.trans h).symm)<|aw aa c.symm
  ·exact bo (B<|(aB c).symm.trans h) λi E J=>i12 (i+1) (E.trans (by rw[lS ..,jY 1 i])) J
theorem Fx.Fits.at{X:Fx}(f:X.Fits c)(h:eU (aF x) c.ns 0=aa k):X.ns[k]?=aa x:=by refine bo (acf h) λi E B=>rwl E ?_;rw[f.ns,gB] at B;refine ej B λy J e=>?_;rw[fQ ..,J,j1 e]
theorem HX(h:dunder (aF x)=aq):(x==("__debug__":Str))=aq/\(x==("__classdict__":Str))=aq:=by
 unfold dunder at h;rw[CP] at h;constructor
 ·refine beq_eq_false_iff_ne.mpr λe=>?_;rw[e] at h;exact aT h.1 (by simp)
 ·refine beq_eq_false_iff_ne.mpr λe=>?_;rw[e] at h;exact aT h.2 (by simp)
theorem Ac(h:e7 e=aq):gS e=ae:=aw not h
theorem HY{es:List bj}(h:es.any e7=aq):es.all gS=ae:=by rw[List.any_eq_false] at h;exact List.all_eq_true.mpr λe B=>Ac (by simpa using h e B)
theorem Iy(h:isCall o=aq)(env):attributeBase o a env (eval o env)=eval o env:=by induction o using iJ<;>first|rfl|exact ia h
section
variable{X:Fx}
theorem cE.Mi(h:cE (SE X) es ds)(hs:es.all gS=ae):lI X es ds:=by induction h with|nil=>exact afn|cons h r ih=>rw[List.all_cons,yY] at hs;exact ac3 hs.1 h<|ih hs.2
theorem cE.len{α β:Type}{P:α->β->Prop}{es:List α}{ds:List β}(h:cE P es ds):es.length=ds.length:=by induction h with|nil=>rfl|cons _ _ B=>rw[jZ,jZ,B]
theorem cE.of{α β:Type}{P:α->β->Prop}{f:α->β}:∀{es},(∀e,P e<|f e)->cE P es (es.map f)|[],_=>.nil|e::_,h=>.cons (h e)<|cE.of h
theorem AS:SB X e .H:=λZ Z Z Z Z Z Z Z Z Z B=>aT rfl B
theorem cE.vo{α β:Type}{P:α->β->Prop}{a:α}{as:List α}{ds:List β}(h:cE P (a::as) ds):∃d js,ds=d::js/\P a d/\cE P as js:=by cases h with|cons a b=>exact fX _ _ rfl a b
theorem cE.Fj{α β:Type}{P:α->β->Prop}{ds:List β}(h:cE P [] ds):ds=[]:=by cases h;rfl
theorem cE.F7{ks:List (Option bj)}:∀{vs:List bj}{ds js},ks.all (·.isSome)=ae->ks.length=vs.length->cE (SE X) (ks.map vE) ds->cE (SE X) vs js->uk X ks vs (ds.zip js):=by
 induction ks with
 |nil=>
  intro vs ds js _ B E J;rw[E.Fj,sR B.symm];exact RD
 |cons k ks M=>
  intro vs ds js h B E J;induction vs using dz with
  |nil=>cases B
  |cons v vs=>
   refine sC h λO h=>cP E.vo λd a P R S=>cP J.vo λj b T V Y=>?_;rw[P,T];induction k using aO with
   |none=>exact dG O
   |some k=>exact Qv R V (M h (uE B) S Y)
theorem cE.vX{ks:List (Option bj)}:∀{vs:List bj}{js},ks.all tG=ae->ks.length=vs.length->cE (SE X) vs js->mE X ks vs ((ks.map λk=>Nm.toStr<|gn k).zip js):=by induction ks with|nil=>exact λ{vs js} Z B h=>rwl (sR B.symm:vs=[]) .nil|cons k ks ih=>intro vs js h B E;induction vs using dz with|nil=>cases B|cons v vs=>refine sC h λJ h=>cP E.vo λj R M O P=>(alw J).elim λx q=>q.elim λS q=>q.elim λp q=>?_;rw[M,iN,XB,q.2,rk ..,q.1];exact .cons O<|ih h (uE B) P
theorem aaY{ks:List (Option bj)}:∀{js},ks.length=js.length->jA ((ks.map λk=>Nm.toStr<|gn k).zip js)=(ks.map λk=>E.bU<|.str<|gn k).zip js:=by induction ks with|nil=>exact λZ=>rfl|cons k ks B=>intro js h;induction js using dz with|nil=>cases h|cons j js=>refine(?_:(E.bU<|.str<|aF<|Nm.toStr<|gn k,j)::jA _=_);rw[Hx ..,B<|uE h];rfl
theorem cE.take{α β:Type}{P:α->β->Prop}{es:List α}{ds:List β}(h:cE P es ds):∀n,cE P (es.take n) (ds.take n):=by induction h with|nil=>exact λn=>by rw[GJ,GJ];exact .nil|cons h _ ih=>exact λn=>qX n .nil λn=>.cons h<|ih n
theorem cE.drop{α β:Type}{P:α->β->Prop}{es:List α}{ds:List β}(h:cE P es ds):∀n,cE P (es.drop n) (ds.drop n):=by induction h with|nil=>exact λn=>by rw[GK,GK];exact .nil|cons h r B=>exact λn=>qX n (.cons h r) B
theorem agP{ks:List (Option bj)}{vs:List bj}{js:List E}{p:Pos}(hl:ks.length=vs.length)(h:17<ks.length/\ks.length<34/\ks.all tG=ae/\((ks.drop 17).map gn).Nodup)(hv:cE (SE X) vs js):
  SE X (.Dict ks vs p) (.aA ((ks.map λk=>E.bU<|.str<|gn k).zip js)):=by
 refine mB h λY a J M=>?_;have b:=hv.len;have O:(ks.take 17).all tG=ae:=List.all_eq_true.mpr λe B=>List.all_eq_true.mp J e<|k8 B;have P:(ks.drop 17).all tG=ae:=List.all_eq_true.mpr λe B=>List.all_eq_true.mp J e<|rb B;have R:=cE.vX (ks:=ks.take 17) O (by simp;lia)<|hv.take 17;have S:=cE.vX (ks:=ks.drop 17) P (by simp;lia)<|hv.drop 17;have:=agq (pos:=p) R S (by simp;lia) (λe=>by have:=aw pJ e;simp at this;lia) (by simp;lia) (by
  have e:(((ks.drop 17).map λk=>Nm.toStr<|gn k).zip<|js.drop 17).map (λp=>aF p.1)=(ks.drop 17).map gn:=by
   have T:(((ks.drop 17).map λk=>Nm.toStr<|gn k).zip<|js.drop 17).map (λp=>aF p.1)=((((ks.drop 17).map λk=>Nm.toStr<|gn k).zip<|js.drop 17).map Hf).map aF:=by rw[iM];rfl
   rw[T,ao8 (by simp;lia),iM];refine GX λk Z=>?_;refine(?_:aF (Nm.toStr<|gn k)=_);rw[Hx ..]
  rw[e];exact M)
 rw[pR,pR] at this;have V:jA (((ks.take 17).map λk=>Nm.toStr<|gn k).zip (js.take 17)++((ks.drop 17).map λk=>Nm.toStr<|gn k).zip (js.drop 17))=(ks.map λk=>E.bU<|.str<|gn k).zip js:=by
  have:((ks.take 17).map λk=>Nm.toStr<|gn k).zip (js.take 17)++((ks.drop 17).map λk=>Nm.toStr<|gn k).zip (js.drop 17)=(ks.map λk=>Nm.toStr<|gn k).zip js:=by rw[<-List.zip_append (by simp;lia),<-jo,pR ..,pR ..]
  rw[this,aaY (by lia)]
 replace this:=(V)▸this;exact this
theorem QK:n∈frees sc<->(n,sV)∈sc.names:=
 ⟨λh=>(List.mem_filterMap.mp h).elim λp q=>dA q.2 λc e=>e▸rws c q.1,λh=>List.mem_filterMap.mpr<|i12 _ h<|aC rfl⟩
theorem ad9{j k:Nat}(hk:(places c sc)[j]?=aa k)(hn:(frees sc)[j]?=aa n)(h:(eU (aF n) c.ns 0).isSome=ae):eU (aF n) c.ns 0=aa k:=by unfold places at hk;rw[gB,hn] at hk;exact(Option.isSome_iff_exists.mp h).elim λi B=>B.trans (aw aa ((aw (λo:Option Nat=>o.getD 0) B).symm.trans<|bf hk))
theorem PU{c:Cc}(f:X.Fits c)(h:xC c sc a=ae):ou X sc a (places c sc) (frees sc)/\X.ro=aq:=
 VG (b8 h) λJ M O P R S T V=>⟨⟨bO.mp J,rwl f.sc<|bO.mp M,λx E=>bne_iff_ne.mp<|List.all_eq_true.mp P x E,λx E Y=>(Bool.or_eq_true_iff.mp<|List.all_eq_true.mp R x E).elim (λq=>aT Y<|bne_iff_ne.mp q) bO.mp,bO.mp S,of_decide_eq_true T,bJ _,
  λj k n b B=>Gh (List.all_eq_true.mp V n<|jW B) λd e g=>lG (f.at<|ad9 b B d) (rwl f.sc<|bO.mp e) (rwl f.sc<|bO.mp g)<|QK.mp<|jW B,λn B=>List.mem_iff_getElem?.mp<|QK.mpr B⟩,f.ro.trans<|yt O⟩
theorem Fx.Fits.inner(f:X.Fits c)(sc)(a):(X.comp sc (a::frees sc)).Fits (inner c sc a):=
 ⟨rfl,by refine(?_:nq sc X.sc=nq sc c.sc);rw[f.sc],f.gl,rfl,⟨f.W.VO,f.W.gl,f.W.bi⟩,⟨f.At.get,f.At.set⟩,⟨f.nH.yes,f.nH.no,f.nH.slot,f.nH.takes⟩,f.pn,λh=>(by exact dG h)⟩
theorem ajv(h:Fy a=aa o):Fi o=a:=by induction a using PySem.Operator.casesOn<;>cases h<;>rfl
theorem Tc(a):Fk (Bz a)=a:=by induction a using PySem.CmpOp.casesOn<;>rfl
theorem qd(k:o=aa b->x=gG b)(h:(if aF x=aF (gG a) then aa a else o)=aa b):x=gG b:=by
 by_cases q:aF x=aF (gG a)
 ·exact rws (bf<|(aC q).symm.trans h)<|j1 q
 ·exact k<|(aB q).symm.trans h
theorem T9:Er (aF x)=aa b->x=gG b:=qd<|qd<|qd<|qd<|qd<|qd<|qd<|qd<|qd<|qd bk
theorem RQ(h:j7 e=aq):behindInMarks a e=aq:=by induction e using iJ<;>first|rfl|exact ia h
theorem acg(h:uR e=aq):Im e=ae:=by induction e using iJ<;>first|rfl|exact ia h
theorem Ae(h:j7 e=aq)(env)(x):foldedSetIterable e env x=pure x:=by induction e using iJ<;>first|rfl|exact ia h
end
end
section
open PySem PySem.Calls PySem.W PyProof.Rows
open Sem (wp)
noncomputable def oy(env:Env):z0->mV->Env|[],_=>env|k::E,B=>oy (B.head?.elim env λv=>env.set k<|.val v) E B.tail
theorem aaZ:∀{vs}{env}{k}{v},ks.length=vs.length->oy env (ks++[k]) (vs++[v])=(oy env ks vs).set k (.val v):=by induction ks with|nil=>exact λ{vs env k v} h=>by rw[sR h.symm];rfl|cons a ks B=>intro vs env k v h;induction vs using dz with|nil=>cases h|cons b vs=>exact B (uE h)
theorem aac:∀{vs}{env}{k}{v},k∉ks->(oy env ks vs).set k (.val v)=oy (env.set k<|.val v) ks vs:=by induction ks with|nil=>exact λZ=>rfl|cons a ks B=>exact λ{vs env k v} h=>(B λq=>h<|dT _ q).trans (aw (oy · ks vs.tail) (by induction vs using dz with|nil=>rfl|cons b vs=>exact List.set_comm _ _ λe=>h<|rws e dE))
theorem aa0:∀{vs}{env},ks.length=vs.length->ks.Nodup->oy env ks.reverse vs.reverse=oy env ks vs:=by induction ks with|nil=>exact λZ Z=>rfl|cons k ks E=>intro vs env h B;induction vs using dz with|nil=>cases h|cons v vs=>rw[CQ,CQ,aaZ (by rw[NF,NF];exact uE h),E (uE h) (mW.mp B).2];exact aac (mW.mp B).1
section
variable{X:Fx}
noncomputable abbrev KJ(X:Fx)(n:Str)(k:Nat):Prop:=X.ns[k]?=aa n/\X.sc.names.lookup n=aa .local
theorem aea:∀{vs}{env}{m}{r},xW X.ok X.κ env m vs (ks.map T.nm)=r->r≠.H->(∀k∈ks,k<env.length)/\.ok (oy env ks vs) m=r:=by induction ks with|nil=>exact λh Z=>⟨λZ h=>(nomatch h),h⟩|cons k ks M=>intro vs env m r h B;refine oi h B λv q h=>D6 h B λP S E h=>uQ E (λh=>nomatch h) λc E=>aW (Internal.R.ok.inj E) λa b=>?_;subst a b;exact aW (M h B) λh1 O=>⟨λj J=>(sS.mp J).elim (λe=>rwl e c) λJ=>rws q8<|h1 j J,(aw (λo:La=>Internal.R.ok (oy (o.elim env λv=>env.set k<|.val v) ks vs.tail) m) q).trans O⟩
theorem aeb{K:FC}(O:X.Of K){A:bL}{E:Ar}(h:cE (KJ X) names ks):∀{a:Ld}{vs}{env}{s}{Q},aU X.C F ι a vs->vs.length=ks.length->(∀k∈ks,k<env.length)->FS X.C K F ι m env s->
  (∀b,FS X.C K F ι m (oy env ks vs) b->Q () b)->wpAny M A (assignInOrder (names.map λn=>bindName K.p n) a) Q E s:=by
 induction h with|nil=>exact λZ Z Z x h=>bE (h _ x)|@cons n k names ks h Y P=>intro a vs env s Q r B bC x R;cases r with|nil=>cases B|cons r S=>have J:=(O.kd n).trans h.2;exact aI (jn (Aa x O.make (k:=k) (y:=n) (rwl O.ns h.1) (bC k dE) (by rw[J];rfl) (.inl J) r λb T=>P S (uE B) (λj V=>rwl q8<|bC j<|dT _ V) T R))
theorem cE.snoc{α β:Type}{P:α->β->Prop}{a:α}{b:β}(h:P a b){as:List α}{bs:List β}(z:cE P as bs):cE P (as++[a]) (bs++[b]):=by induction z with|nil=>exact .cons h .nil|cons B _ E=>exact .cons B E
theorem cE.rev{α β:Type}{P:α->β->Prop}{as:List α}{bs:List β}(h:cE P as bs):cE P as.reverse bs.reverse:=by induction h with|nil=>exact .nil|cons h _ B=>rw[CQ,CQ];exact B.snoc h
theorem aU.rev(h:aU C F ι vs ds):aU C F ι vs.reverse ds.reverse:=
 h.ind (P:=λvs ds=>aU C F ι vs.reverse ds.reverse) .nil λZ Z Z Z h Z y=>by rw[CQ,CQ];exact y.append<|.cons h .nil
theorem agQ{t e:bj}{d:E}(h:SE X e d)(hn:cE (KJ X) names ks)(hk:ks.Nodup)(i:∀K:FC,X.Of K->swapsWith e (aa t) pos.line K.p=pure aq)(cY:∀K:FC,X.Of K->swappedStores [t] e K.p=pure (aa names)):
  SS X (.Assign [t] e pos) (.aQ (.tup<|ks.map T.nm) d):=.intro λ{K F ι m B s A r Q E} O V x J Y j u=>by
 rw[G8 ..];refine P.bind<|P.standAt<|P.bz<|cV (i K O) ?_;rw[aB dq];refine P.bind (h.pg O V x J Y u λv f R F' av w J y z g C=>P.bz<|cV (cY K O) ?_);have S:mm X.ok X.κ B R f (.tup<|ks.map T.nm)≠.H:=λe=>Y (J.symm.trans (aw (ef B · _) e));refine oi (r:=mm X.ok X.κ B R f<|.tup<|ks.map T.nm) rfl S λD q e=>uQ e S λc e=>aW (aea e S) λG I=>?_;replace c:=(bJ ..)▸c;have J:=(aw (ef B · λe m=>Fl.nx e m) I).trans J;refine(km q).elim λl e=>e.elim λL N=>nE (HM g C<|aw (rv R) L) λa U n W Z M=>rwl W ?_;have M:=(show l=D from N)▸M;refine P.bz<|pN ?_;rw[show names.length=U.size from hn.len.trans (c.symm.trans M.size.symm)];exact P.bz (ao3 V.hd ⟨_,Z,rfl,n,rfl⟩ λh' hs=>P.bz (aeb O hn.rev M.rev (by rw[NF,NF];exact c) (λk hk=>G k<|List.mem_reverse.mp hk) (g.grow (t:=w.toks) (h':=h') λb o e=>hs b o (ju<|i7 e) e) λs3 x3=>P.pure (j.nx y z (aa0 c.symm hk▸x3) J)))
end
section
namespace P
section
variable{prog:fO}{w:eh}{A:bL}{E:Ar}{s:az}{env:gA}
theorem YO
  (n:clausesOf e=g::gs)(hs:∀x,foldedSetIterable g.iter env x=nN x)(o:closureFor scope env=nN cl)(p:scope.kind=.function)(Jn:∀x∈scope.names,x.2=.local ->scope.names.lookup x.1=aa .local)
  (h:aD (model prog w) A first (λx b=>aD (model prog w) A (pyIter x) (λc d=>aD (model prog w) A i (λacc j=>
   aD (model prog w) A (newFunctionEnv scope env.globals cl [] env.qual ag .none<|aa env) (λcenv k=>
    cM (model prog w) A (.compStart e 0 c acc {cenv with scope:=relabel scope env}) (λr l=>match r with
     |.ok _=>wpAny (model prog w) A (use acc) (λZ a=>∃m,a.heap.Ns cenv.locals m/\∀h',zd cenv.locals a.heap h'->Q .none {a with heap:=h'}) E l
     |.error _=>False) k) E j) E d) E b) E s):
  aD (model prog w) A (M9 e scope env pos i aq first<|aa use) Q E s:=by
 unfold M9;rw[o,n];refine bind (mono h (λx b J=>bind (standAt (bz (cV (hs x) (bind (holding (mono J (λc d M=>?_) λZ Z h'=>h'))))))) λZ Z h'=>h');refine(?_:aD _ _ (lQ e.pos>>=λZ=>i>>=_) _ _ _);refine bind (standAt (bind (mono M (λacc j O=>bind (pure (bind (mono O (λcenv k P=>?_) λZ Z h'=>h')))) λZ Z h'=>h')));dsimp only;have R:∀x∈(scope.names.filter λx=>(x.2==.local ||x.2==.cell)&&x.1 !=(".0":Str)).reverse.drop 1++(scope.names.filter λx=>(x.2==.local ||x.2==.cell)&&x.1 !=(".0":Str)).reverse.take 1,x.2=.local ->
   Env.kindOf {cenv with scope:=relabel scope env} x.1=aa .local :=λx B S=>by
  have B:=(List.mem_append.mp B).elim rb k8;exact Xv<|Jn x (List.mem_filter.mp<|List.mem_reverse.mp B).1 S
 refine holding (bind (attempt (holding (run (qa P λr l hr=>?_)))));induction r using y8 with
 |ok f=>
  exact bz (pN (bz (jn (fh hr (λZ a hr=>bo hr λm T hr=>bz (wpAny_comp_letGo (cenv:={cenv with scope:=relabel scope env}) p _ a m R T λh' Y Z V=>pure<|hr h' V)) λZ Z h'=>h'))))
 |error x=>exact hr.elim
end
end P
open Sem (wp)
section
variable{X:Fx}
theorem aec[Decidable c](h:ef env (if c then R.ok e m else .H) (λe m=>Fl.nx e m)=r)(hb:r≠.H):c/\.nx e m=r:=by
 by_cases q:c
 ·rw[aC q] at h;exact⟨q,h⟩
 ·rw[aB q] at h;exact aT h.symm hb
theorem Td{dc:Option E}(S:ou X scope n fr ns)(cm:X.ro=aq)
  (hi:SE X iter W)(he:SE (X.comp scope (n::ns)) j nz)(hc:uo (X.comp scope (n::ns)) ifs dc)(hs:∀env x,foldedSetIterable iter env x=pure x)(ht:X.ns[k]?=aa t)(qO:X.sc.names.lookup t=aa .local)
  (sx:∀K,X.Of K->swapsWith (.ListComp j [⟨.Name n px,iter,ifs,0⟩] scope u) (aa<|.Name t w) pos.line K.p=pure ae):SS X (.Assign [.Name t w] (.ListComp j [⟨.Name n px,iter,ifs,0⟩] scope u) pos) (.aQ (.nm k)<|.comp nz W dc fr):=.intro λ{K F ι m env s A r Q E} O hA x J hb hQ hE=>by
 have jj:=(O.kd t).trans qO;have J:ef env (bI X.ok X.κ env m<|.comp nz W dc fr) (λv m=>ef env (if k<env.length then R.ok (env.set k<|.val v) m else .H) λe m=>.nx e m)=r:=J;rw[G8 ..];generalize hy:bI X.ok X.κ env m (.comp nz W dc fr)=y at J;refine P.bind<|P.standAt<|P.bz<|cV (sx K O) ?_;rw[aC rfl];have mH:evalThenUse (.ListComp j [⟨.Name n px,iter,ifs,0⟩] scope u) K.p (λv=>assignAll v ((assignEach [.Name t w] K.p).map (·.2)))=(comprehension (.ListComp j [⟨.Name n px,iter,ifs,0⟩] scope u) scope K.p (firstIterPos [⟨.Name n px,iter,ifs,0⟩] u) (newList []) aq (eval iter K.p) (aa λv=>assignAll v ((assignEach [.Name t w] K.p).map (·.2)))>>=λZ=>pure ()):=rfl;rw[mH];refine P.bind<|P.bind ?_;refine bo (QG (px:=px) (pos:=u) S cm hi he hc O hA x hy (λe=>hb (J.symm.trans (aw (ef env · _) e))) (Ex:=E) (λe B q=>match q with|.i why m' M T e1 l1 l2 z=>hE _ _ (.i why M T m' env l1 l2 (J.symm.trans (aw (ef env · _) e1)) z))
  (Fin:=λacc L B=>wpAny X.C.md A (assign (.Name t w) K.p acc) (λZ gy=>∃ml,gy.heap.Ns L ml/\∀h',zd L gy.heap h'->Q .next {gy with heap:=h'}) (λZ Z=>False) B)
  λF1 ji m1 s1 M T m2 B mq Y G D L pf x1 l1 l2 vY vZ dX I hD pD LU r5=>aW (aec ((aw (ef env · _) vZ).symm.trans J) hb) λbC J=>by rw[Np];refine aI<|wpAny_standAt<|M7 ?_;have N:=vY.freeze pD hD;have V:Le M (M.put D<|lobj Y G):=.put pD.fr;have x8:=x1.after N;have rD:Rl X.C (M.put D<|lobj Y G) T (.ref D) (.lst mq):=.lst (Fz.m6 ..) rfl rfl ⟨rfl,rfl⟩<|r5.mono V<|.refl T;refine bu x1.fm λml1 f1=>vL dX λoL esL epL yI nd=>?_;have KC:L≠K.p.locals:=λe=>f1.ns.elim λo q=>q.elim λZ q=>q.elim λZ q=>nomatch I.new.symm.trans (show s1.heap.get? L=aa o from rwl e q.1);have f8:=f1.move (h':=B.heap) N.f0 N.i0 λa ob P e=>N.Jj P e;have U:Pv s1 (M.put D<|lobj Y G) T L:=⟨I.new,(aB<|nQ LU).trans I.fr,I.ni⟩;have f9:=f1.Ks f8 (l:=[(L,oL)]) (λa o hm=>(sS.mp hm).elim (λh=>rN h λh1 h2=>by subst h1 h2;exact cv ⟨x1.st.rI U.new,U.fr,U.ni⟩ yI U.new) λh=>nomatch h) (by simp);have x9:FS X.C (K.put L oL) (M.put D<|lobj Y G) T m2 env B:=⟨x8.st,⟨_,f9⟩,x8.wd⟩;exact M8 jj f9.ns (λh' hn hs=>⟨pf,K9 oL esL epL (hs.extBut _ _ KC yI) nd,λh7 F9=>hQ.nx ((l1.trans vY.f0).trans V) (l2.trans vY.i0) ((x9.S8 (t:=B.toks+1) O.make.nd f9 (k:=k) (y:=t) (show K.ns[k]?=aa t from rwl O.ns ht) rD hn hs.extBut jj).Ky (t:=B.toks+1) F9.extBut) J⟩) (by rw[O.make.kind];rfl)) λcl nI h=>?_
 refine P.mono (P.YO (g:=⟨.Name n px,iter,ifs,0⟩) (gs:=[]) (E:=E) (Q:=λv B=>Q .next B) rfl (λy=>hs _ y) nI S.kind S.ba (P.mono h (λa s1 h1=>P.mono h1 (λb s2 h2=>P.mono h2 (λc s3 h3=>P.mono h3 (λd s4 h4=>P.qa h4 λr s5 h5=>?_) λZ Z y=>y) λZ Z y=>y) λZ Z y=>y) λZ Z y=>y)) (λv B hq=>P.pure<|P.pure hq) λZ Z y=>y;induction r using y8 with|ok f=>exact fh h5 (λZ Z y=>y) λZ Z y=>y.elim|error e=>exact h5
end
end
end
section
open PySem PySem.Calls PySem.W PyProof.Rows
structure Ua(n:Nat):Prop where
 e:∀{c}{X}(e),X.Fits c->SE X e (bM n c e)
 t:∀{c}{X}(e),X.Fits c->SB X e (lC n c e)
 es:∀{c}{X}(es),X.Fits c->cE (SE X) es (e9 n c es)
 ts:∀{c}{X}(es),X.Fits c->cE (SB X) es (JZ n c es)
 o:∀{c}{X}(e),X.Fits c->vQ X e (rS n c e)
section
variable{n:Nat}{c:Cc}{X:Fx}
theorem aed:SE X (.Constant k m p) (match litOf k with|some v=>.bU v|none=>.H):=by induction k using PySem.Const.casesOn with|int i=>exact aiz|none=>exact afk|bool b=>exact afl|str x=>exact SM|bytes b=>exact aiA|_=>exact fp
theorem agR(f:X.Fits c):SE X (.Name x p) (if dunder (aF x) then .H else(match eU (aF x) c.ns 0 with|some k=>.ba k|none=>if kd c.sc x=aa .globalImplicit/\c.gl (aF x)=ae then .dB (aF x) else .H)):=by
 by_cases n:dunder (aF x)=ae
 ·rw[aC n];exact fp
 ·rw[aB n];refine aW (HX<|Bool.eq_false_iff.mpr n) λB E=>?_;induction J:eU (aF x) c.ns 0 using aO with|some k=>exact SP (f.at J) B E|none=>
   by_cases h:kd c.sc x=aa .globalImplicit/\c.gl (aF x)=ae
   ·dsimp only;rw[aC h];exact afq f.W (by rw[f.sc];exact h.1) (f.gl _ h.2) B
   ·dsimp only;rw[aB h];exact fp
variable(ih:Ua n)(f:X.Fits c)
include ih f
theorem xD(h:¬(es.any e7||decide (es.length>1000))=ae):(e9 n c es).length<=1000/\lI X es (e9 n c es):=by rw[Cz,CP] at h;have z:=ih.es es f;exact⟨by rw[<-z.len];simpa using h.2,z.Mi<|HY h.1⟩
theorem agS:SE X (.Dict ks vs p) (bM (n+1) c<|.Dict ks vs p):=by
 refine(?_:SE X _ (if ks.length≠vs.length\/ks.all (·.isSome)=aq then .H
   else if ks.length=0 then(if c.hint p.line=2 then .vA else if c.hint p.line=1 then .fq [] else .aA [])
   else if ks.length<=15 then(if c.hint p.line=0 then .aA ((e9 n c<|ks.map vE).zip<|e9 n c vs) else .fq ((e9 n c<|ks.map vE).zip<|e9 n c vs))
   else if 17<ks.length/\ks.length<34/\ks.all tG=ae/\((ks.drop 17).map gn).Nodup then .aA ((ks.map λk=>E.bU<|.str<|gn k).zip<|e9 n c vs)
   else .H))
 by_cases h:ks.length≠vs.length\/ks.all (·.isSome)=aq
 ·rw[aC h];exact fp
 rw[aB h];rw[not_or,Bool.not_eq_false] at h;have B:=apF.mp h.1;have P:=(ih.es (X:=X) (c:=c) (ks.map vE) f);have M:=(ih.es (X:=X) (c:=c) vs f);have S:=P.len;have Y:=M.len;rw[bJ] at S;by_cases J:ks.length=0
 ·rw[aC J];have a:=List.length_eq_zero_iff.mp J;have b:=List.length_eq_zero_iff.mp<|rws B J;rw[a,b];by_cases q:c.hint p.line=2
  ·rw[aC q];exact ago
  rw[aB q];by_cases q:c.hint p.line=1
  ·rw[aC q];exact adx
  ·rw[aB q];exact agp
 rw[aB J];have T:ks≠[]:=λe=>J (by rw[e];rfl);by_cases O:ks.length<=15
 ·rw[aC O];have V:((e9 n c<|ks.map vE).zip<|e9 n c vs).length=ks.length:=by rw[List.length_zip,<-S,<-Y,<-B,ML ..]
  by_cases q:c.hint p.line=0
  ·rw[aC q];exact ajf (P.F7 h.2 B M) h.2 B V.symm T O
  ·rw[aB q];exact agn (P.F7 h.2 B M) h.2 B V.symm T O
 rw[aB O];by_cases R:17<ks.length/\ks.length<34/\ks.all tG=ae/\((ks.drop 17).map gn).Nodup
 ·rw[aC R];exact agP B R M
 ·rw[aB R];exact fp
theorem agT:SE X (.Call g es ks p) (bM (n+1) c<|.Call g es ks p):=by
 induction ks using dz with
 |cons _ _=>exact fp
 |nil=>
  refine(?_:SE X _ (match l6 g with
    |some f=>if es.any e7 then .H else(match Er (aF f.1) with
     |some b=>if kd c.sc f.1=aa .globalImplicit then .bi b (e9 n c es) else .H
     |none=>.call (bM n c g)<|e9 n c es)
    |none=>(match u5 g with
     |some o=>(match only es with
      |some a=>if e7 a.1||isCall o.1.1||o.1.2.2.endLine !=p.line then .H
       else if aF o.1.2.1=aF "append" then .hO (bM n c o.1.1) (bM n c a.1) else if aF o.1.2.1=aF "get" then .qr (bM n c o.1.1) (bM n c a.1) else .H
      |none=>.H)
     |none=>.H)))
  induction l6 g using aO with
  |some x=>
   obtain⟨x,q,rfl⟩:=x;dsimp only;by_cases h:es.any e7=ae
   ·rw[aC h];exact fp
   rw[aB h];have B:=HY<|Bool.eq_false_iff.mpr h;induction M:Er (aF x) using aO with
   |some b=>
    dsimp only;by_cases E:kd c.sc x=aa .globalImplicit
    ·rw[aC E,T9 M];exact aln f.W f.nH (by rw[f.sc,<-T9 M];exact E) ((ih.es _ f).Mi B) B
    ·rw[aB E];exact fp
   |none=>exact af6 f.W (ih.e _ f) ((ih.es _ f).Mi B) B
  |none=>
   induction u5 g using aO with
   |none=>exact fp
   |some o=>
    obtain⟨⟨o,m,ap⟩,rfl⟩:=o;induction only es using aO with
    |none=>exact fp
    |some a=>
     obtain⟨a,rfl⟩:=a;dsimp only;by_cases h:(e7 a||isCall o||ap.endLine !=p.line)=ae
     ·rw[aC h];exact fp
     rw[aB h];rw[Cz,CP,CP] at h;have J:=h.2;rw[bne,Bool.not_eq_false'] at J;by_cases q:aF m=aF "append"
     ·rw[aC q,j1 q];exact agk (ih.e _ f) (ih.e _ f) (Iy h.1.2) (Ac h.1.1) J
     rw[aB q];by_cases q:aF m=aF "get"
     ·rw[aC q,j1 q];exact agl (ih.e _ f) (ih.e _ f) (Iy h.1.2) (Ac h.1.1) J
     ·rw[aB q];exact fp
theorem agU:SE X (.ListComp a gens sc p) (bM (n+1) c<|.ListComp a gens sc p):=by
 refine(?_:SE X _ (match ya gens with
   |some g=>if xC c sc g.1.1&&!j7 g.1.2.1 then
    (match g.1.2.2 with
     |[]=>.comp (bM n (inner c sc g.1.1) a) (bM n c g.1.2.1) ag<|places c sc
     |t::r=>(match r with
      |[]=>.comp (bM n (inner c sc g.1.1) a) (bM n c g.1.2.1) (aa<|lC n (inner c sc g.1.1) t)<|places c sc
      |_::_=>.H)) else .H
   |none=>.H))
 induction ya gens using aO with
 |none=>exact fp
 |some g=>
  obtain⟨⟨J,iter,B⟩,q,rfl⟩:=g;dsimp only;by_cases h:(xC c sc J&&!j7 iter)=ae
  ·rw[aC h];rw[yY,zi] at h;refine aW (PU f h.1) λS M=>?_;have E:=f.inner sc J;rcases B with _|⟨t,_|⟨_,_⟩⟩
   ·exact RJ S M (ih.e _ f) (ih.e _ E) .nil<|Ae h.2
   ·exact RJ S M (ih.e _ f) (ih.e _ E) (.one<|ih.t _ E)<|Ae h.2
   ·exact fp
  ·rw[aB h];exact fp
theorem Te{P:bj->E->Prop}(hb:∀e,P e .H)(h1:∀{d}{b},j7 b=aq->P (.Compare a [d] [b] p) (.cmp (Bz d) (bM n c a)<|bM n c b)):P (.Compare a g bs p) (match only g with
   |some d=>(match only bs with
    |some b=>if j7 b.1 then .H else .cmp (Bz d.1) (bM n c a) (bM n c b.1)
    |none=>.H)
   |none=>.H):=by
 induction only g using aO with
 |none=>exact hb _
 |some d=>
  induction only bs using aO with
  |none=>exact hb _
  |some b=>
   obtain⟨d,rfl⟩:=d;obtain⟨b,rfl⟩:=b;dsimp only;by_cases h:j7 b=ae
   ·rw[aC h];exact hb _
   ·rw[aB h];exact h1<|Bool.eq_false_iff.mpr h
theorem alJ(e:bj):SE X e (bM (n+1) c e):=by
 induction e using iJ with
 |Constant k m p=>exact aed
 |Name x p=>exact agR f
 |Tuple B k p=>
  refine(?_:SE X _ (if B.any e7||decide (B.length>1000) then .H else .tup (e9 n c B)));by_cases h:(B.any e7||decide (B.length>1000))=ae
  ·rw[aC h];exact fp
  ·rw[aB h];exact aiE (xD ih f h).1 (xD ih f h).2
 |List B p=>
  refine(?_:SE X _ (if B.any e7||decide (B.length>1000) then .H else if c.hint p.line=0 then .lst (e9 n c B) else .kj (e9 n c B)));by_cases h:(B.any e7||decide (B.length>1000))=ae
  ·rw[aC h];exact fp
  ·rw[aB h];by_cases q:c.hint p.line=0
   ·rw[aC q];exact aiF (xD ih f h).1 (xD ih f h).2
   ·rw[aB q];exact afs (xD ih f h).1 (xD ih f h).2
 |Dict J R p=>exact agS ih f
 |Attribute v a p=>
  refine(?_:SE X _ (if isCall v then .H else .attr (bM n c v) (aF a)));by_cases h:isCall v=ae
  ·rw[aC h];exact fp
  ·rw[aB h];exact afv f.At (ih.e _ f)<|Iy<|Bool.eq_false_iff.mpr h
 |Subscript v i p=>
  refine(?_:SE X _ (match xv i with
   |some l=>.eY (bM n c v) (rS n c l.1.1)<|rS n c l.1.2
   |none=>if uR i then .H else .sub (bM n c v) (bM n c i)))
  induction xv i using aO with
  |some l=>
   obtain⟨l,q,rfl⟩:=l;exact aiN (ih.e _ f) (ih.o _ f)<|ih.o _ f
  |none=>
   by_cases h:uR i=ae
   ·rw[aC h];exact fp
   ·rw[aB h];exact aiM (ih.e _ f) (ih.e _ f)<|acg<|Bool.eq_false_iff.mpr h
 |Call g B J p=>exact agT ih f
 |BinOp a E b p=>
  refine(?_:SE X _ (match Fy E with
   |some o=>.bin o (bM n c a)<|bM n c b
   |none=>.H))
  induction h:Fy E using aO with
  |some o=>exact aiU (ajv h) (ih.e _ f) (ih.e _ f)
  |none=>exact fp
 |UnaryOp E a p=>
  induction E using PySem.UnaryOp.casesOn with
  |Not=>exact aiH (ih.e _ f)
  |USub=>exact aiX (ih.e _ f)
  |_=>exact fp
 |BoolOp E B p=>
  induction E using PySem.BoolOp.casesOn with
  |And=>exact ai0 (ih.es _ f)
  |Or=>exact alb (ih.es _ f)
 |Compare a M S p=>exact Te ih f (P:=SE X) (λZ=>fp) λh=>aiV (Tc _) (ih.e _ f) (ih.e _ f)<|RQ h
 |IfExp t a b p=>exact aiJ (ih.t _ f) (ih.e _ f) (ih.e _ f)
 |ListComp O gens T p=>exact agU ih f
 |_=>exact fp
theorem alK(e):SB X e (lC (n+1) c e):=by
 induction e using iJ with
 |UnaryOp B a p=>
  induction B using PySem.UnaryOp.casesOn with
  |Not=>exact aiG (ih.t _ f)
  |_=>exact AS
 |BoolOp B E p=>
  induction B using PySem.BoolOp.casesOn with
  |And=>exact ai1 (ih.ts _ f)
  |Or=>exact alc (ih.ts _ f)
 |Compare a J M p=>exact Te ih f (P:=SB X) (λZ=>AS) λh=>aiW (Tc _) (ih.e _ f) (ih.e _ f)<|RQ h
 |IfExp t a b p=>exact ai3 (ih.t _ f) (ih.t _ f) (ih.t _ f)
 |Name x p=>exact DN (ih.e _ f) λZ Z=>rfl
 |Attribute v a p=>exact DN (ih.e _ f) λZ Z=>rfl
 |Subscript v i p=>exact DN (ih.e _ f) λZ Z=>rfl
 |Call g E O p=>exact DN (ih.e _ f) λZ Z=>rfl
 |_=>exact AS
end
theorem u9:∀n,Ua n
 |0=>{
  e:=λe f=>by exact fp
  t:=λe f=>by exact AS
  es:=λes f=>by exact cE.of λZ=>fp
  ts:=λes f=>by exact cE.of λZ=>AS
  o:=λe f=>by
   induction e using aO with
   |none=>exact Qo
   |some e=>exact Qp fp}
 |n+1=>have B:=u9 n
  {e:=λe f=>alJ B f e
   t:=λe f=>alK B f e
   es:=λes f=>by exact cE.of λZ=>B.e _ f
   ts:=λes f=>by exact cE.of λZ=>B.t _ f
   o:=λe f=>by
     induction e using aO with
    |none=>exact Qo
    |some e=>exact Qp (B.e _ f)}
section
variable{X:Fx}{c:Cc}
theorem xE:AT X t (.sub .H .H):=λZ Z Z Z Z Z Z Z Z Z Z Z Z c=>aT rfl c
theorem Jp{st:iv}(h:b=ae->SS X st x):SS X st (if b=ae then x else .H):=by induction b using aS with|false=>exact eN|true=>exact h rfl
theorem Fx.Fits.fn(f:X.Fits c){K:FC}(O:X.Of K){n:Str}:K.p.kindOf n=c.sc.names.lookup n:=(O.kd n).trans<|rws f.sc rfl
theorem Fx.Fits.block(f:X.Fits c){K:FC}(O:X.Of K):K.p.blockKind=.function:=by unfold Env.blockKind;rw[O.make.kind];rfl
theorem J4(f:X.Fits c):∀(n)(t),AT X t (vF n c t)
 |0,t=>xE
 |n+1,t=>by
  have CE:=u9 n;induction t using iJ with
  |Name x p=>
   refine(?_:AT X _ (if setOk c x=ae/\dunder (aF x)=aq then(match eU (aF x) c.ns 0 with
    |some k=>.nm k
    |none=>.sub .H .H) else .sub .H .H))
   by_cases h:setOk c x=ae/\dunder (aF x)=aq
   ·rw[aC h];have E:=Bool.and_eq_true_iff.mp h.1;induction J:eU (aF x) c.ns 0 using aO with
    |some k=>exact alq (f.ro.trans<|(zi _).mp E.2) (f.at J) (by rw[f.sc];exact E.1)
    |none=>exact xE
   ·rw[aB h];exact xE
  |Attribute v a p=>exact agD f.At (CE.e _ f)
  |Subscript v i p=>
   refine(?_:AT X _ (match xv i with
    |some l=>.eY (bM n c v) (rS n c l.1.1)<|rS n c l.1.2
    |none=>if uR i then .sub .H .H else .sub (bM n c v) (bM n c i)))
   induction xv i using aO with
   |some l=>
    obtain⟨l,q,rfl⟩:=l;exact ajk (CE.e _ f) (CE.o _ f)<|CE.o _ f
   |none=>
    dsimp only;by_cases h:uR i=ae
    ·rw[aC h];exact xE
    ·rw[aB h];exact ajj (CE.e _ f)<|CE.e _ f
  |Tuple B k p=>
   refine(?_:AT X _ (if B.any e7 then .sub .H .H else .tup (B.map<|vF n c)));by_cases h:B.any e7=ae
   ·rw[aC h];exact xE
   ·rw[aB h];exact ajl (cE.of λt=>J4 f n t) (by rw[bJ ..])<|HY<|Bool.eq_false_iff.mpr h
  |_=>exact xE
theorem HZ(h:u6 e=aq)(t)(l)(env):swapsWith e t l env=pure aq:=by induction e using iJ<;>first|rfl|exact ia h
theorem bz{c c':Prop}[Decidable c][Decidable c']{y:Sem (Option<|List Str)}(e:c<->c')(h:(if c' then aa ag else z)=aa r)(k:z=aa r->y=pure r):(if c then pure ag else y)=pure r:=by
 by_cases q:c'
 ·rw[aC<|e.mpr q];exact aw pure<|bf<|(aC q).symm.trans h
 ·rw[aB λw=>q<|e.mp w];exact k<|(aB q).symm.trans h
theorem alL{E:Prop}[Decidable E]{k:List Str->Option (Option<|List Str)}:(match(if E then ag else aa names:Option (List Str)) with|none=>aa ag|some n=>k n)=if E then aa ag else k names:=by
 by_cases q:E
 ·rw[aC q,aC q]
 ·rw[aB q,aB q]
theorem ach(f:X.Fits c){K:FC}(O:X.Of K){ts vs:List bj}{A:bj->Bool}{g:bj->Option Str}(b:A=e7)(hg:g=λe=>(l6 e).bind λa=>if c.sc.names.lookup a.1==aa .local &&e.pos.line==(ts.head?.map (·.pos.line)).getD 0 then aa a.1 else ag)
  (h:(if !(ts.length==2||ts.length==3)||vs.length !=ts.length then aa ag
  else if vs.any e7 then aa ag
  else match HV c ts with|none=>aa ag|some names=>if vs.all (foldedForSure 8) then aa ag else if vs.all (constantsAlone 8) then ag else aa (aa names))=aa r):
   (do
    if !(ts.length==2||ts.length==3)||vs.length !=ts.length||K.p.blockKind !=.function then return ag
    if vs.any A then return ag
    let names:=ts.filterMap g
    if names.length !=ts.length||names.eraseDups.length !=names.length then return ag
    if vs.all (foldedForSure 8) then return ag
    if vs.all (constantsAlone 8) then unsupported "assign.tuple-of-constant-expressions:order-of-the-stores"
    return aa names:Sem (Option<|List Str))=pure r:=by
 rw[f.block O,b,hg];refine bz (by rw[show(ScopeKind.function !=ScopeKind.function)=aq from rfl,Bool.or_false ..]) h λh=>bz Iff.rfl h λh=>?_;have h:=alL.symm.trans h;refine bz Iff.rfl h λh=>bz Iff.rfl h λh=>?_;by_cases B:vs.all (constantsAlone 8)=ae
 ·exact bk<|(aC B).symm.trans h
 ·rw[aB B];exact aw pure<|bf<|(aB B).symm.trans h
theorem PV(f:X.Fits c){K:FC}(O:X.Of K){t v:bj}(h:zN c t v=aa r):swappedStores [t] v K.p=pure r:=by
 have B:∀(ts vs:List bj)(k p E J),(if !(ts.length==2||ts.length==3)||vs.length !=ts.length then aa ag
  else if vs.any e7 then aa ag
  else match HV c ts with
   |none=>aa ag
   |some names=>if vs.all (foldedForSure 8) then aa ag else if vs.all (constantsAlone 8) then ag else aa (aa names))=aa r->swappedStores [.Tuple ts k p] (.Tuple vs E J) K.p=pure r:=λts vs k p E J h=>
  ach f O (funext λx=>by induction x using iJ<;>rfl) (funext λx=>by induction x using iJ<;>first|rfl|(dsimp only;rw[f.fn O];rfl)) h
 have no:zN c t v=aa ag->swappedStores [t] v K.p=pure ag->swappedStores [t] v K.p=pure r:=λM P=>by
  rw[M] at h;(have R:=bf h;subst R);exact P
 induction t using iJ with
 |Tuple ts _ _=>
  induction v using iJ with
  |Tuple vs _ _=>exact B ts vs _ _ _ _ h
  |_=>exact no rfl rfl
 |List ts _=>
  induction v using iJ with
  |Tuple vs k p=>exact B ts vs k p k p h
  |_=>exact no rfl rfl
 |_=>exact no rfl rfl
theorem aci(f:X.Fits c):∀{ks},placesOf c names=aa ks->cE (KJ X) names ks:=by induction names with|nil=>exact λh=>rws (bf h) .nil|cons n r B=>intro ks h;exact lg h λE J=>lZ J λk M O=>ej O λS P R=>R▸.cons ⟨f.at M,rwl f.sc<|bO.mp E⟩ (B P)
theorem PW(f:X.Fits c){K:FC}(O:X.Of K){a:bj}(h1:c.sc.names.lookup x=aa .local)(h2:b.line=d.line)(g:(sc.names.any λ(n,k)=>n==x&&(k==.local ||k==.cell))=aq):
  swapsWith (.ListComp a gens sc d) (aa<|.Name x b) l K.p=pure ae:=by
 have e:(K.p.blockKind==.function&&K.p.kindOf x==aa .local &&b.line==d.line&&!(sc.names.any λ(n,k)=>n==x&&(k==.local ||k==.cell)))=ae:=by rw[f.block O,f.fn O,h1,h2,g];simp
 refine(?_:(pure (K.p.blockKind==.function&&K.p.kindOf x==aa .local &&b.line==d.line&&!(sc.names.any λ(n,k)=>n==x&&(k==.local ||k==.cell))):Sem Bool)=pure ae);rw[e]
theorem alM(f:X.Fits c)(n:Nat)(t e:bj)(p:Pos):SS X (.Assign [t] e p) (KH n c t e p):=by
 have CE:=u9 n;induction t using iJ with
 |Name x b=>
  induction e using iJ with
  |ListComp J gens B d=>
   refine(?_:SS X _ (match ya gens with
    |some g=>if (c.sc.names.lookup x==aa .local)&&b.line==d.line&&!(B.names.any λ(n,k)=>n==x&&(k==.local ||k==.cell))&&xC c B g.1.1&&!j7 g.1.2.1 then
     (match eU (aF x) c.ns 0 with
     |some k=>(match g.1.2.2 with
      |[]=>.aQ (.nm k)<|.comp (bM n (inner c B g.1.1) J) (bM n c g.1.2.1) ag<|places c B
      |u::r=>(match r with
       |[]=>.aQ (.nm k)<|.comp (bM n (inner c B g.1.1) J) (bM n c g.1.2.1) (aa<|lC n (inner c B g.1.1) u)<|places c B
       |_::_=>.H))
     |none=>.H) else .H
    |none=>.H))
   induction ya gens using aO with
   |none=>exact eN
   |some g=>
    obtain⟨⟨h,iter,T⟩,q,rfl⟩:=g;dsimp only;refine Jp λi=>yC (b5 i) λE M P j R=>?_;have E:=bO.mp E;have M:=bO.mp M;have P:=yt P;have R:=yt R;refine aW (PU f j) λS Y=>?_;have V:=f.inner B h;induction a:eU (aF x) c.ns 0 using aO with
    |none=>exact eN
    |some k=>
     rcases T with _|⟨u,_|⟨_,_⟩⟩
     ·exact Td S Y (CE.e _ f) (CE.e _ V) .nil (Ae R) (f.at a) (by rw[f.sc];exact E) λK O=>PW f O E M P
     ·exact Td S Y (CE.e _ f) (CE.e _ V) (.one<|CE.t _ V) (Ae R) (f.at a) (by rw[f.sc];exact E) λK O=>PW f O E M P
     ·exact eN
  |_=>exact eN
 |_=>exact eN
theorem cE.V8(h:cE (SS X) b a):gO X b a:=by induction h with|nil=>exact agx|cons h _ c=>exact adL h c
structure Ub(n:Nat):Prop where
 s:∀{c}{X}(s),X.Fits c->SS X s (vH n c s)
 b:∀{c}{X}(b),X.Fits c->gO X b (qv n c b)
section
variable{n:Nat}(ih:Ub n)(f:X.Fits c)
include f
theorem ajw:SS X (.Assign ts e p) (vH (n+1) c<|.Assign ts e p):=by
 have M:=u9 n;show SS X _ (match only ts with
   |none=>.H
   |some t=>if e7 t.1 then .H else if u6 e then KH n c t.1 e p else(match zN c t.1 e with
    |some o=>(match o with
     |none=>.aQ (vF n c t.1)<|bM n c e
     |some names=>(match placesOf c names with
      |some ks=>if ks.Nodup then .aQ (.tup<|ks.map .nm) (bM n c e) else .H
      |none=>.H))
    |none=>.H))
 induction only ts using aO with
 |none=>exact eN
 |some t=>
  obtain⟨t,rfl⟩:=t;dsimp only;by_cases E:e7 t=ae
  ·rw[aC E];exact eN
  rw[aB E];by_cases B:u6 e=ae
  ·rw[aC B];exact alM f n _ _ _
  rw[aB B];have B:=Bool.eq_false_iff.mpr B;induction P:zN c t e using aO with
  |none=>exact eN
  |some o=>
   induction o using aO with
   |none=>exact ajm (J4 f n _) (M.e _ f) (λK O=>HZ B _ _ _) (λK O=>PV f O P) (Ac<|Bool.eq_false_iff.mpr E)
   |some names=>
    dsimp only;induction R:placesOf c names using aO with
    |none=>exact eN
    |some ks=>
     dsimp only;by_cases J:ks.Nodup
     ·rw[aC J];exact agQ (M.e _ f) (aci f R) J (λK O=>HZ B _ _ _) λK O=>PV f O P
     ·rw[aB J];exact eN
theorem ajx:SS X (.AugAssign t .Add e p) (vH (n+1) c<|.AugAssign t .Add e p):=by
 have CE:=u9 n;show SS X _ (match l6 t with
    |some x=>if setOk c x.1=ae/\dunder (aF x.1)=aq then(match eU (aF x.1) c.ns 0 with
     |some k=>.tX k<|bM n c e
     |none=>.H) else .H
    |none=>(match u5 t with
     |some o=>.tY (bM n c o.1.1) (aF o.1.2.1)<|bM n c e
     |none=>.H))
 induction l6 t using aO with
 |some x=>
  obtain⟨x,q,rfl⟩:=x;dsimp only;by_cases h:setOk c x=ae/\dunder (aF x)=aq
  ·rw[aC h];have B:=Bool.and_eq_true_iff.mp h.1;refine aW (HX h.2) λE J=>?_;induction M:eU (aF x) c.ns 0 using aO with
   |some k=>exact agG (f.ro.trans<|(zi _).mp B.2) (f.at M) (by rw[f.sc];exact B.1) E J (CE.e _ f)
   |none=>exact eN
  ·rw[aB h];exact eN
 |none=>
  induction u5 t using aO with
  |none=>exact eN
  |some o=>
   obtain⟨o,rfl⟩:=o;exact agH f.At (CE.e _ f)<|CE.e _ f
theorem aee:SS X (.Raise o y p) (vH (n+1) c<|.Raise o y p):=by
 have B:=u9 n;induction y using aO with|some _=>exact eN|none=>
  refine(?_:SS X _ (match Jo o with|some q=>if Bb q.1.1&&!e7 q.1.2&&(c.sc.names.lookup q.1.1==aa .globalImplicit) then .raise (bM n c q.1.2) else .H|none=>.H))
  induction Jo o using aO with|none=>exact eN|some q=>obtain⟨⟨x,e⟩,R,p2,rfl⟩:=q;dsimp only;refine Jp λE=>Gh E λJ M O=>?_;have P:x=("Misused":Str):=j1<|bO.mp J;subst P;exact ad4 f.pn (B.e _ f) (Ac<|yt M)<|rwl f.sc<|bO.mp O
omit f in
theorem agV(W:X.pn)(e:X.ro=aq)(g:X.top=ae){q:vG}(h:q.Of l)(hx:q.x=("Misused":Str))(d:q.w=("fault":Str))(ha:q.a=("why":Str))(hg:q.f=q.f')(hb:gO X b i)(hm:X.sc.names.lookup q.x=aa .globalImplicit)(hf:X.ns[j]?=aa q.f)(k:X.ns[m]?=aa q.t)(fM:X.sc.names.lookup q.f=aa .local)(o:X.sc.names.lookup q.t=aa .local)(p:q.f≠q.t)(r:(q.f==("__debug__":Str))=aq):
  SS X (.Try b l [] [] pos) (.tZ i j m):=by
 obtain⟨x,f,t,w,c,a⟩:=q;dsimp only at hx d ha hg;subst hx d ha hg;cases h
 exact aju W e g hb hm hf k fM o p r
include ih
theorem ajy{q:vG}(g:q.Of hs)(hb:(Bb q.x&&q.f==q.f'&&aF q.a==[119,104,121]&&aF q.w==[102,97,117,108,116]&&(c.sc.names.lookup q.x==aa .globalImplicit)&&(c.sc.names.lookup q.f==aa .local)&&(c.sc.names.lookup q.t==aa .local)&&q.f !=q.t&&!c.ro&&c.top&&!dunder (aF q.f))=ae):
  SS X (.Try b hs [] [] p) (match eU (aF q.f) c.ns 0 with
      |some d=>(match eU (aF q.t) c.ns 0 with
       |some e=>.tZ (qv n c b) d e
       |none=>.H)
      |none=>.H):=by
 induction E:eU (aF q.f) c.ns 0 using aO with
 |none=>exact eN
 |some d=>
  induction J:eU (aF q.t) c.ns 0 using aO with
  |none=>exact eN
  |some e=>exact K6 (b11 hb) λhb M O P R S B=>yC hb λT V Y h i=>agV f.pn (f.ro.trans<|yt R) (f.top S) g (j1<|bO.mp T) (j1<|bO.mp h) (j1<|bO.mp Y) (bO.mp V) (ih.b _ f) (rwl f.sc<|bO.mp i) (f.at E) (f.at J) (rwl f.sc<|bO.mp M) (rwl f.sc<|bO.mp O) (bne_iff_ne.mp P) (HX<|yt B).1
theorem ajz{b d fin:List iv}:SS X (.Try b hs d fin p) (vH (n+1) c<|.Try b hs d fin p):=by
 induction d using dz with
 |cons _ _=>exact eN
 |nil=>
  induction fin using dz with
  |cons _ _=>exact eN
  |nil=>
   refine(?_:SS X _ (match J0 hs with
     |none=>.H
     |some q=>if Bb q.1.x&&q.1.f==q.1.f'&&aF q.1.a==[119,104,121]&&aF q.1.w==[102,97,117,108,116]&&(c.sc.names.lookup q.1.x==aa .globalImplicit)&&(c.sc.names.lookup q.1.f==aa .local)&&(c.sc.names.lookup q.1.t==aa .local)&&q.1.f !=q.1.t&&!c.ro&&c.top&&!dunder (aF q.1.f) then
      (match eU (aF q.1.f) c.ns 0 with
      |some B=>(match eU (aF q.1.t) c.ns 0 with
       |some E=>.tZ (qv n c b) B E
       |none=>.H)
      |none=>.H) else .H))
   induction J0 hs using aO with
   |none=>exact eN
   |some q=>
    exact Jp λJ=>ajy ih f q.2 J
theorem alN(s):SS X s (vH (n+1) c s):=by
 have B:=u9 n;induction s using PySem.Stmt.casesOn with
 |Expr e p=>
  refine(?_:SS X _ (if u6 e then .H else .expr (bM n c e)));by_cases h:u6 e=ae
  ·rw[aC h];exact eN
  ·rw[aB h];exact λK F ι m E s A O=>agA (B.e _ f) (λE=>HZ (Bool.eq_false_iff.mpr h) _ _ _) (rws O.sc O.make.kind) K F ι m E s A O
 |Assign P e p=>exact ajw f
 |AugAssign t M e p=>
  induction M using PySem.Operator.casesOn with
  |Add=>exact ajx f
  |_=>exact eN
 |If t a b p=>exact alp (B.t _ f) (ih.b _ f) (ih.b _ f)
 |For t e b J p=>
  induction J using dz with
  |cons _ _=>exact eN
  |nil=>
   refine(?_:SS X _ (if j7 e||c.ro then .H else .dN (vF n c t) (bM n c e) (qv n c b)));by_cases h:(j7 e||c.ro)=ae
   ·rw[aC h];exact eN
   ·rw[aB h];rw[Cz,CP] at h;exact ajp (f.ro.trans h.2) (J4 f n _) (B.e _ f) (Ae h.1)<|ih.b _ f
 |While t b J p=>
  induction J using dz with
  |cons _ _=>exact eN
  |nil=>exact adQ (B.t _ f) (ih.b _ f)
 |Return o p=>
  induction o using aO with
  |none=>exact agz
  |some e=>exact aji (B.e _ f)
 |Break p=>exact ajh
 |Pass p=>exact agy
 |Raise o y p=>exact aee f
 |Try b R J fin p=>exact ajz ih f
 |_=>exact eN
end
theorem Jq:∀n,Ub n
 |0=>{
  s:=λs f=>eN
  b:=λb f=>(cE.of λZ=>eN).V8}
 |n+1=>have c:=Jq n
  {s:=λs f=>alN c f s
   b:=λb f=>(cE.of λs=>c.s s f).V8}
end
structure Be(C:Cx)(ok:Nm->Nm->Bool)(gl:Nm->Bool):Prop where
 gl:∀x:Str,gl (aF x)=ae->∃a,C.mg x=aa (.ref a)/\keepIn C.K (.ref a)=ae
 bi:∀b:BI,C.mg (gG b)=ag
 at_:∀X:Fx,X.C=C->X.ok=ok->X.At
 isi:∀X:Fx,X.C=C->X.nH
 mis:∀X:Fx,X.C=C->X.pn
inductive r0(C:Cx)(gl:Nm->Bool)(hint:Nat->Nat)(x:Nm):Gl->Prop where|fn{a:aH}{params:nT}{body:List iv}{scope:d5}(hm:C.mg (Nm.toStr x)=aa (.ref a))(hF:qx C a params body scope (params.defaults.map λe=>(hV e).getD .none))(hS:nA params scope (params.defaults.map λe=>(hV e).getD .none).length=ae):r0 C gl hint x (.fn<|lD gl hint aq params body scope)|cls{c fI:aH}{params:nT}{body:List iv}{scope:d5}(hm:C.mg (Nm.toStr x)=aa (.ref c))(hC:UX C c fI)(hF:qx C fI params body scope (params.defaults.map λe=>(hV e).getD .none))(hS:nA params scope (params.defaults.map λe=>(hV e).getD .none).length=ae):r0 C gl hint x (.cls<|lD gl hint aq params body scope)
abbrev KL(C:Cx)(ok:Nm->Nm->Bool)(κ:i3)(n:Nat)(gl:Nm->Bool)(top:Bool)(params:nT)(scope:d5):Fx:={C:=C,ok:=ok,κ:=κ,n:=n,ns:=lV params scope,sc:=scope,gl:=gl,ro:=aq,top:=top}
section
variable{C:Cx}{ok:Nm->Nm->Bool}{gl:Nm->Bool}{hint:Nat->Nat}{κ:i3}{n:Nat}
theorem fits_of(G:Be C ok gl)(a:EU C κ n)(top:Bool)(params:nT)(scope:d5):(KL C ok κ n gl top params scope).Fits (UW gl hint top params scope):=
 ⟨rfl,rfl,λZ h=>h,rfl,⟨a,G.gl,G.bi⟩,G.at_ _ rfl rfl,G.isi _ rfl,G.mis _ rfl,λh=>h⟩
theorem Tf(G:Be C ok gl)(c:EU C κ n)(top:Bool)(hF:qx C a params body scope (params.defaults.map λe=>(hV e).getD .none))(d:nA params scope (params.defaults.map λe=>(hV e).getD .none).length=ae)
  {l:mV}{m:J}{F:Fz}{ι:lk}{s:az}{vals:Ld}{A:bL}{fr:List gA}{r:R V}(f:top=ae->fr=[])(g:v7 n A fr)(je:Frs s.heap F ι fr)(h:Wd C F)(cY:St C s F ι F ι m s)(hl:aU C F ι vals l)(hr:hH ok κ (lD gl hint top params body scope) l m=r)(hb:r≠.H):
  cM C.md A (.call (.ref a) ⟨vals,[]⟩) (nu C s F ι fr r) s:=
 RP (X:=KL C ok κ n gl top params scope) hF rfl rfl rfl ((Jq 60).b body<|fits_of (hint:=hint) G c top params scope) d f g je h cY hl hr hb
def Uc(ok:Nm->Nm->Bool)(κ:i3)(o:Option Gl)(x:Nm)(l:mV)(m:J):R V:=match o with|some (.fn f)=>hH ok κ f l m|some (.cls f)=>AQ (.inst x m.length) (hH ok κ f (.inst x m.length::l)<|m++[.aA []])|none=>.H
theorem ajA(G:Be C ok gl)(T:∀x g,a x=aa g->r0 C gl hint x g)(n:Nat):EU C (eW ok a n) n:=by
 induction n with
 |zero=>exact λx l m F ι s vals A f P Z Z Z Z Z Z B=>aT rfl B
 |succ n R=>
  intro x l m F ι s vals A f P S V Y c d hm;have J:∀o:Option Gl,(∀g,o=aa g->r0 C gl hint x g)->Uc ok (eW ok a n) o x l m≠.H->cM C.md A (.call f ⟨vals,[]⟩) (nu C s F ι P<|Uc ok (eW ok a n) o x l m) s:=by
   intro o T B;induction o using aO with
   |none=>exact aT rfl B
   |some g=>
    cases T g rfl with
    |fn E M O=>
     rw[bf<|hm.symm.trans E];exact Tf G R aq M O (λh=>dG h) S.rm V Y c d rfl B
    |cls E e M O=>
     rw[bf<|hm.symm.trans E];exact call_cls (X:=KL C ok (eW ok a n) n gl aq _ _) e E M rfl rfl rfl ((Jq 60).b _<|fits_of (hint:=hint) G R aq _ _) O rfl S V Y c d rfl B
  exact J (a x) λg=>T x g
end
end
section
open PySem PySem.Calls PySem.W PyProof.Rows
open Sem (wp)
theorem aef:Ly ⟨.builtin "claim.caller" {},ag,ag,[],ag⟩:=⟨by kernel_rfl,λx h=>by cases h⟩
theorem ZC{R:gP->az->Prop}(b:s.asleep)
  (h:aD (model prog w) callerA t (λfin a=>∃f,fin=.done f/\(R (.ok f) a/\leftWithCleanup a.gens=aq)) (λe a=>R (.error e) a/\leftWithCleanup a.gens=aq) s):
  ∃n r a c,runN (denote table) prog w n s ⟨t,.builtin "claim.caller" {},default,[]⟩=.halted (outcomeOf r) a/\
   schedN (denote table) prog w n (.single s ⟨t,.builtin "claim.caller" {},default,[]⟩)=.halted (outcomeOf r) a/\a.forget=c.forget/\R r c:=by
 have E:wp (model prog w) ⟨.builtin "claim.caller" {},ag,ag,[],ag⟩ t (Sem.finPost (model prog w) ⟨.builtin "claim.caller" {},ag,ag,[],ag⟩ λr a=>R r a/\leftWithCleanup a.gens=aq) (λe Z a=>R (.error e) a/\leftWithCleanup a.gens=aq) default s:=by exact sG _ _ t (λfin g a B=>bo B λf J O=>rwl J O) (λZ Z Z B=>B) default s (h _ default caller_in aef)
 exact Lw (wp_halts_full (M:=model prog w) (R:=R) b E) λn r P S T V Y d=>⟨n,r,S,P,V,T,Y,d⟩
theorem acj{c:ClaimW}{tree:Ld->Sem Fin}{free:aH->Prop}{gens:Prop}{kept:eM->Prop}(hz:s.asleep)(j:s.gens=#[])
  (g:∀args,c.pre args=ae->XN args=ae->
   ∀ord,(∀l,(ord l).Perm l)->
   ∃vs d,layAllW c.records (classAt s.heap) w.params ord args s=aa (vs,d)/\
    aD (model c.prog w) callerA (tree vs) (λfin a=>∃f,fin=.done f/\(c.Ends s args vs d (.ok f) a/\a.os=s.os/\AllBare a.gens/\kept a.heap))
     (λe a=>c.Ends s args vs d (.error e) a/\a.os=s.os/\AllBare a.gens/\kept a.heap) d):
  c.CallFrom (λvs=>⟨tree vs,.builtin "claim.caller" {},default,[]⟩) w free gens kept s:=by
 intro args T V ord Y;refine fw (g args T V ord Y) λvs d M m=>?_;have O:=layAllW_rest _ _ _ M;refine Lw (ZC (prog:=c.prog) (w:=w) (t:=tree vs) (s:=d)
  (R:=λr a=>c.Ends s args vs d r a/\a.os=s.os/\kept a.heap)
  (Shared.asleep_of_life O.2.2.2 hz)
  (P.mono m (λfin a h=>h.elim λf h=>cu f h.1 (cv h.2.1 h.2.2.1 h.2.2.2.2)<|aph h.2.2.2.1) λe a h=>⟨cv h.1 h.2.1 h.2.2.2,aph h.2.2.1⟩)) λk r a u n B p E=>?_
 have hE:=Shared.forget_eq p;have J:=(runN_life _ _ _ n).trans O.2.2.2;refine⟨vs,d,M,k,_,a,B,?_,(λZ i x S=>by rw[j] at S;simp at S),rwl hE.1 E.2.2,by rw[J],Shared.rest_eq<|hE.2.2.2.1.trans E.2.1⟩;exact bZ (E.1.congr hE.1) (λh=>.inl (h.elim λv h=>⟨v,aw outcomeOf h.1,h.2.1,h.2.2.1,h.2.2.2.1,λb o y Z=>h.2.2.2.2.1 b o y,h.2.2.2.2.2⟩))
  λh=>.inr (h.elim λe h=>h.elim λq h=>h.elim λcls h=>Lv e q cls (aw outcomeOf h.1) h.2.1 h.2.2.1 h.2.2.2.1 h.2.2.2.2.1 λb o y Z=>h.2.2.2.2.2 b o y)
noncomputable abbrev apJ(name:Str)(vs:Ld):Sem Fin:=do match<-nsGet mainNs name with
   |some f=>do ret (<-wA f vs)
   |none=>unsupported "claim.caller:no-such-global"
theorem ajC{r:OpenRow}{q:fO}{XP:(Str->Option ar)->eM->Prop}{α:Type}{Yf:az->α}{F:eh->α}{YP:eh->eM->Prop}{d:DefRec}{m:List (Str×bj)}{N:Nat}
  (left:LeftO r.prog q loose Xt Yf F N)(hY:∀w s,Yf s=F w->YP w s.heap)(p:∀w h h',YP w h->(∀b o,h.get? b=aa o->h'.get? b=aa o)->YP w h')
  (H:∀s,Xt s=ae->XP (s.heap.nsMap mainGlobals) s.heap)(t:∀mg h h',XP mg h->(∀b o,h.get? b=aa o->h'.get? b=aa o)->XP mg h')
  (u:defOf q r.name=aa (d,m))(hp:r.prog.theDef r.name=aa (d.params,d.body,d.scope))(hk:kwWritten? d.params.kwonlyargs d.params.kw_defaults=aa m)(x:r.records=[])(I:r.writes=aq)
  (k1:r.wellSaid=ae)(ok:(chainsOk q&&opensWell r.prog&&(api r.toRowW&&r.within.isEmpty))=ae)(hb:r.prog.bare)(K:r.toRowW.promised)
  (call:∀(w)(bc f)(mg mb),Ground q loose r.records XP w bc mg mb f.heap->YP w f.heap->∀(a)(o)(A cd i k l),f.heap.get? a=aa o->
   o.data=.func {docDef d.name d.params d.body d.scope A cd i with defaults:=k,kwdefaults:=l}->f.heap.CodeRec cd d.name->Dflts mg f.heap d.params m k l->mg d.name=aa (.ref a)->f.gens=#[]->
   ∀(args)(vals)(as),r.claim.pre args=ae->XN args=ae->ReadsAllW r.records (classAt bc.heap) f.heap vals args as->NG w.params f.heap vals args->(∀a∈as,(a==sysModules)=aq)->
   aD (model r.prog w) callerA (wA (.ref a) vals) (λv j=>GoodWG r.claim (classAt bc.heap) (ExcName.means bc.heap) args f (.ok<|.ret v) j)
    (λe j=>GoodWG r.claim (classAt bc.heap) (ExcName.means bc.heap) args f (.error e) j) f):r.Holds:=by
 refine cv k1 K ?_;refine gl λB E=>?_;refine mh ok λok O=>?_;refine mh ok λQ o1=>mh O λO k6=>?_;refine yC (frees_parts O) λU hu ha R hm=>?_;refine E ?_;refine cv (cv hb o1 (by refine(?_:r.makers.map _=[]);rw[hm];rfl)) K.witness λw=>⟨(left.behind H Q w).1,λj ik=>?_⟩;refine gl λB E=>?_;obtain⟨bc,hf,S,s,hT,hz,M,hg,B,y⟩:=(left.behind (XP:=XP) H Q w).2 j ik;refine E ?_;have V:RecFacts r.records s.heap:=recFacts_nil x;refine⟨bc,hf,S,s,hT,λn hn=>?_,V.1,V.2.1,?_⟩
 ·obtain rfl:n=r.name:=by split at hn<;>simp_all
  exact pinned_of_view hg B u hp hk
 have M:=Array.eq_empty_of_size_eq_zero<|bO.mp M;have G:=V.ground B;refine acj (c:=r.toRowW.claim) hz M λargs W X ord FE=>?_;refine gl λB E=>?_;refine Bo (layAllW_isSome (P:=w.params) (ord:=ord) G.has args r.args s (pre_splitW W).1) λao J=>?_;obtain⟨Y,f⟩:=ao;have keeps:=layAllW_keeps _ _ _ J;have qP:=layAllW_rest _ _ _ J;refine cA (reads_layAllW FE _ _ _ J X f.heap λZ Z e=>e) λas v9 nG hold=>?_;have L:Laid r.records w s f args Y as:=⟨i12 ord FE J,v9,nG,hold,keeps,qP.1.trans M,qP.2.2.1⟩;have C:=G.keeps t keeps;obtain⟨a,o,A,cd,i,k,l,h1,h2,h3,h4,h5⟩:=C.fn u;refine E ?_;have D:=call w s f _ _ C (p _ _ _ (hY w s y) keeps) a o A cd i k l h2 h3 h4 h5 (rwl (defOf_name u) h1) L.gens args Y as W X L.reads L.well<|L.low G.low;have hi:=ident_freeW hu ha R;have Wb:=List.isEmpty_iff.mp k6;refine iY Y f J<|P.bz<|wpAny_nsGet C.T.g ?_;rw[h1];refine P.bind (P.mono D (λv j g=>P.pure<|i12 _ rfl ?_) λe j g=>?_)
 ·have z:=g.laid (c:=r.toRowW.claim) U Wb hi L;exact lG z.1 z.2.1 z.2.2 (λq=>by rw[I] at q;exact dG q)
 ·have z:=g.laid (c:=r.toRowW.claim) U Wb hi L;exact lG z.1 z.2.1 z.2.2 (λq=>by rw[I] at q;exact dG q)
end
section
open PySem PySem.Calls PySem.W PyProof.Rows
theorem lookup_mem{K:fg}:K.lookup a=aa o->(a,o)∈K:=by induction K with|nil=>exact λe=>bk e|cons p r ih=>rw[pP];induction B:a==p.1 using aS with|true=>exact λe=>sS.mpr (.inl<|NH (bO.mp B) (bf e).symm)|false=>exact λe=>dT _<|ih e
theorem oz{α:Type}{o:Option α}{f:α->Bool}(h:o.any f=ae){G:Prop}(kk:∀a,o=aa a->f a=ae->G):G:=by induction o using aO with|none=>exact aT h dq|some a=>exact kk a rfl h
def litOk(d:V)(v:ar):Bool:=match d with
 |.int i=>(match v with
  |.int j _=>i==j
  |_=>aq)
 |.str x=>(match v with
  |.str y _=>x==aF y
  |_=>aq)
 |.bb b=>(match v with
  |.bytes c _=>b==cq c
  |_=>aq)
 |.none=>(match v with
  |.none=>ae
  |_=>aq)
 |.bool b=>(match v with
  |.bool c=>b==c
  |_=>aq)
 |_=>aq
theorem ajD(h:litOk d v=ae):Rl C F ι v d:=by
 induction d using V.casesOn with
 |int i=>induction v using wL with
  |int j t=>exact rws (bO.mp h) (.int _ _)
  |_=>exact aT h dq
 |str x=>induction v using wL with
  |str y t=>exact rwl (bO.mp h) (.str _ _)
  |_=>exact aT h dq
 |bb b=>induction v using wL with
  |bytes c t=>exact rwl (bO.mp h) (.bb _ _)
  |_=>exact aT h dq
 |none=>induction v using wL with
  |none=>exact .none
  |_=>exact aT h dq
 |bool b=>induction v using wL with
  |bool c=>exact rws (bO.mp h) (.bool _)
  |_=>exact aT h dq
 |_=>exact aT h dq
def Ue(e:bj)(v:ar):Bool:=(hV e).any λd=>litOk d v
noncomputable def Jr:List bj->Ld->Bool|[],B=>B.isEmpty|e::E,B=>B.head?.any (Ue e)&&Jr E B.tail
theorem ajE{C:Cx}{F:Fz}{ι:lk}(h:Ue e v=ae):Rl C F ι v ((hV e).getD .none):=oz h λd B E=>rwl B<|ajD E
theorem aeg:∀{vs},Jr es vs=ae->aU C F ι vs (es.map λe=>(hV e).getD .none):=by induction es with|nil=>exact λh=>rwl (List.isEmpty_iff.mp h) .nil|cons e es B=>intro vs h;induction vs using dz with|nil=>exact aT (b2 h).1 dq|cons v vs=>exact .cons (ajE (b2 h).1) (B (b2 h).2)
noncomputable def I5:FuncBody->List iv|.stmts b=>b|_=>[]
noncomputable def RR:FuncBody->Bool|.stmts _=>ae|_=>aq
theorem agW(h:RR b=ae):b=.stmts (I5 b):=by induction b using PySem.FuncBody.casesOn with|stmts b=>rfl|_=>exact aT h dq
noncomputable def fnO(o:Option Obj):Option {fd:FuncData//∃a b sl,o=aa ⟨a,b,.func fd,sl⟩}:=match o with|some ⟨a,b,.func fd,sl⟩=>aa ⟨fd,a,b,sl,rfl⟩|_=>ag
noncomputable def anz(o:Option Obj):Option {vs:Array ar//∃a k,o=aa a/\a.data=.seq vs k}:=match o with|some ⟨B,E,.seq vs k,J⟩=>aa ⟨vs,⟨B,E,.seq vs k,J⟩,k,rfl,rfl⟩|_=>ag
def U2(K:fg)(ds:List bj)(v:ar):Bool:=match v with|.none=>ds.isEmpty|.ref T=>(anz<|K.lookup T).any λB=>Jr ds B.1.toList|_=>aq
theorem alR{C:Cx}{ds:List bj}{v:ar}(h:U2 C.K ds v=ae):(v=.none/\(ds.map λe=>(hV e).getD .none)=[])\/∃T o vs k,v=.ref T/\C.K.lookup T=aa o/\o.data=.seq vs k/\∀F ι,aU C F ι vs.toList (ds.map λe=>(hV e).getD .none):=by induction v using wL with|none=>exact .inl ⟨rfl,rwl (List.isEmpty_iff.mp h) rfl⟩|ref T=>exact .inr (oz h λvs Z h=>fw vs.2 λo k B E=>⟨T,o,vs.1,k,rfl,B,E,λF ι=>aeg h⟩)|_=>exact aT h dq
def U3(K:fg)(fd:FuncData):Bool:=
 fd.closure.isEmpty&&fd.globals==mainGlobals&&fd.builtins==builtinsNs&&codeIn K fd.code fd.qualname&&RR fd.body&&nA fd.params fd.scope fd.params.defaults.length&&U2 K fd.params.defaults fd.defaults
theorem alS(h1:fd.closure=[])(h2:fd.globals=mainGlobals)(a:fd.builtins=builtinsNs)(h4:fd.body=.stmts b):fd=fnOf fd.name fd.qualname fd.params b fd.scope fd.defaults fd.kwdefaults fd.doc fd.pyModule fd.annotations fd.code fd.closureTuple:=by obtain⟨E,q,J,M,O,g,P,R,S,B,T,V,cd,Y,c⟩:=fd;dsimp only at h1 h2 a h4;subst h1 h2 a h4;rfl
theorem alT(h:∃b c sl,C.K.lookup a=aa ⟨b,c,.func fd,sl⟩)(ok:U3 C.K fd=ae):
  qx C a fd.params (I5 fd.body) fd.scope (fd.params.defaults.map λe=>(hV e).getD .none)/\nA fd.params fd.scope (fd.params.defaults.map λe=>(hV e).getD .none).length=ae:=
 K6 (b7 ok) λB E J M O P R=>VH h λb c sl S=>⟨⟨λZ k=>k b c sl fd.name fd.qualname fd.defaults fd.kwdefaults fd.doc fd.pyModule fd.annotations fd.code fd.closureTuple (S.trans (aw (λf=>aa<|Obj.mk b c (.func f) sl)<|alS (List.isEmpty_iff.mp B) (bO.mp E) (bO.mp J)<|agW O)) M<|alR R⟩,rwl (bJ _) P⟩
noncomputable def t9(o:Option ar):Option {a:aH//o=aa (.ref a)}:=match o with|some (.ref a)=>aa ⟨a,rfl⟩|_=>ag
noncomputable def alU(o:Option (Option ar)):Option {a:aH//o=aa (aa<|.ref a)}:=match o with|some (aa<|.ref a)=>aa ⟨a,rfl⟩|_=>ag
noncomputable abbrev fY:=nT×List iv×d5
def Ml(K:fg)(a:aH):Option fY:=(fnO<|K.lookup a).bind λB=>if U3 K B.1=ae then aa (B.1.params,I5 B.1.body,B.1.scope) else ag
def tH(mg:Str->Option ar)(K:fg)(x:Nm):Option fY:=(t9<|mg<|Nm.toStr x).bind λa=>Ml K a.1
def Ug(K:fg)(c:aH):Option fY:=(alU<|findIn K (.ref c) "__init__").bind λf=>if typeIn K (.ref f.1)=aa (.type "function") then Ml K f.1 else ag
def D7(mg:Str->Option ar)(K:fg)(x:Nm):Option fY:=(t9<|mg<|Nm.toStr x).bind λc=>if makesIn K c.1=ae then Ug K c.1 else ag
section
variable{C:Cx}{gl:Nm->Bool}{hint:Nat->Nat}{x:Nm}{p:nT}{b:List iv}{sc:d5}
theorem Js(h:Ml C.K a=aa (p,b,sc)):qx C a p b sc (p.defaults.map λe=>(hV e).getD .none)/\nA p sc (p.defaults.map λe=>(hV e).getD .none).length=ae:=
 cO h λO x h=>dA h λB h=>rN h λE h=>rN h λJ M=>by subst E J M;exact alT x B
theorem Tg(h:tH C.mg C.K x=aa (p,b,sc)):∃a,C.mg (Nm.toStr x)=aa (.ref a)/\qx C a p b sc (p.defaults.map λe=>(hV e).getD .none)/\nA p sc (p.defaults.map λe=>(hV e).getD .none).length=ae:=cO h λa B h=>i12 a B<|Js h
theorem alV(h:tH C.mg C.K x=aa (p,b,sc)):r0 C gl hint x (.fn<|lD gl hint aq p b sc):=cA (Tg h) λa B E J=>.fn B E J
theorem ajF(h:D7 C.mg C.K x=aa (p,b,sc)):r0 C gl hint x (.cls<|lD gl hint aq p b sc):=
 cO h λc B h=>lg h λE h=>cO h λf J h=>lg h λM h=>aW (Js h) λO P=>.cls B ⟨E,J,M⟩ O P
end
def J5(mg:Str->Option ar)(K:fg)(c x:Str):Bool:=(t9<|mg c).any λa=>plainGet K a.1 x&&hasDictIn K a.1&&(findIn K (.ref a.1) x).any (λattr=>noGet K attr)&&findIn K (.ref a.1) "__setattr__"==aa (aa<|.builtin "object.__setattr__")&&plainOver K a.1&&takerIn K a.1 x==aa ag
def U4(mg:Str->Option ar)(K:fg)(p:Nm×Nm):Bool:=J5 mg K (Nm.toStr p.1)<|Nm.toStr p.2
theorem Uh{mg:Str->Option ar}{K:fg}{c x:Str}(h:J5 mg K c x=ae):∃a attr,mg c=aa (.ref a)/\(plainGet K a x=ae/\hasDictIn K a=ae/\findIn K (.ref a) x=aa attr/\noGet K attr=ae)/\
   findIn K (.ref a) "__setattr__"=aa (aa<|.builtin "object.__setattr__")/\plainOver K a=ae/\takerIn K a x=aa ag/\hasDictIn K a=ae:=
 oz h λa Z h=>Gi h λE B J M O P=>oz J λattr R S=>yD a.1 attr a.2 (lG E B R S) (bO.mp M) O (bO.mp P) B
def Ui(mg:Str->Option ar)(K:fg)(c:Nm)(a:aH):Bool:=isIn K (.ref a) a&&plainGet K a "__class__"&&hasDictIn K a&&findIn K (.ref a) "__class__"==aa (aa<|.builtin "object.__class__")&&mroIn K a (.type "object")==aa ae&&nt.all λx=>x==c||(t9<|mg<|Nm.toStr x).any λb=>kin_not K a b.1
def Uj(mg:Str->Option ar)(K:fg):Bool:=
 nt.all (λc=>(t9<|mg<|Nm.toStr c).any λa=>Ui mg K c a.1)&&specialIn K (.builtin "object.__class__") "__get__"==aa (aa<|.builtin "getset_descriptor.__get__")&&takesIn K (.builtin "object.__class__")==aa ae
noncomputable def Uk(f:BI->Bool):Bool:=f .len&&(f .range&&(f .sum&&(f .min&&(f .max&&(f .sorted&&(f .bytes&&(f .bytearray&&(f .tuple&&f .isinstance))))))))
def J6(mg:Str->Option ar)(K:fg)(names:List Nm)(qQ:List (Nm×Nm)):Bool:=
 names.all (λx=>(t9<|mg<|Nm.toStr x).any λa=>keepIn K<|.ref a.1)&&
 Uk (λb=>(mg<|gG b).isNone)&&qQ.all (U4 mg K)&&Uj mg K
theorem EY{α:Type}{l:List α}{f:α->Bool}(h:l.all f=ae){a:α}(m:a∈l):f a=ae:=List.all_eq_true.mp h a m
theorem ajG{X:Fx}(h:Uj X.C.mg X.C.K=ae):X.nH:=
 Gh h λJ M O=>
  have one:∀c,nt.contains (aF c)=ae->∃a:aH,X.C.mg c=aa (.ref a)/\Ui X.C.mg X.C.K (aF c) a=ae:=λc B=>oz (EY J<|List.contains_iff_mem.mp B) λa Z h=>i12 a.1 ((aw X.C.mg<|rk c).symm.trans a.2) h
  ⟨λc B=>bo (one c B) λa E z=>i12 a E<|(b6 z).1,λc x B P R=>bo (one c B) λa E z=>Gi z λZ S T V Y d=>(Bool.or_eq_true_iff.mp<|EY d<|List.contains_iff_mem.mp P).elim (λe=>aT (j1<|bO.mp e).symm R) λe=>oz e λb Z f=>⟨a,b.1,E,(aw X.C.mg<|rk x).symm.trans b.2,f,S,T,bO.mp V,bO.mp Y⟩,bO.mp M,bO.mp O⟩
theorem agX(h:Uk f=ae)(b):f b=ae:=by have B:=(b2 h).2;have E:=(b2 B).2;have J:=(b2 E).2;have M:=(b2 J).2;have O:=(b2 M).2;have P:=(b2 O).2;have R:=(b2 P).2;have S:=(b2 R).2;induction b using BI.casesOn with|len=>exact(b2 h).1|range=>exact(b2 B).1|sum=>exact(b2 E).1|min=>exact(b2 J).1|max=>exact(b2 M).1|sorted=>exact(b2 O).1|bytes=>exact(b2 P).1|bytearray=>exact(b2 R).1|tuple=>exact(b2 S).1|isinstance=>exact(b2 S).2
theorem ajH{C:Cx}{names:List Nm}{qQ:List (Nm×Nm)}(h:J6 C.mg C.K names qQ=ae)(hm:∀X:Fx,X.C=C->X.pn):Be C (λc x=>qQ.contains (c,x)) (λx=>names.contains x):=
 mB (b4 h) λM O P R=>
  have key:∀(c x),qQ.contains (aF c,aF x)=ae->J5 C.mg C.K c x=ae:=λc x S=>by have:=EY P<|List.contains_iff_mem.mp S;unfold U4 at this;rwa [rk,rk] at this
  ⟨λx T=>oz (EY M<|List.contains_iff_mem.mp T) λa Z k=>i12 a.1 ((aw C.mg<|rk x).symm.trans a.2) k,λb=>Option.isNone_iff_eq_none.mp<|agX O b,
   λX B J=>by subst B;exact⟨λc x h=>gx (Uh<|key c x<|(congrFun (congrFun J<|aF c)<|aF x).symm.trans h) λa attr E V Z Z=>iY a attr E V,λc x h=>cP (Uh<|key c x<|(congrFun (congrFun J<|aF c)<|aF x).symm.trans h) λa attr E Z Y=>i12 a E Y⟩,
   λX B=>ajG<|rwl B R,hm⟩
noncomputable def clO(o:Option Obj):Option {p:ClassData×Option aH×Array (Option ar)//o=aa ⟨.type "type",p.2.1,.cls p.1,p.2.2⟩}:=match o with|some ⟨.type t,B,.cls cd,E⟩=>if h:t="type" then aa ⟨(cd,B,E),by rw[h]⟩ else ag|_=>ag
noncomputable def anA(c:aH)(l:Ld):Option {a:Ld//l=.ref c::a}:=match l with|.ref d::a=>if h:d=c then aa ⟨a,by rw[h]⟩ else ag|_=>ag
set_option genCtorIdx true in
structure Wc where
 (k0 k1 k2 k3 k5:Option ar)
noncomputable def anB(l:List (Option ar)):Option {k:Wc//l=[k.k0,k.k1,k.k2,k.k3,aa<|.builtin "Exception.__new__",k.k5]}:=match l with|[B,E,J,M,aa<|.builtin i,O]=>if h:i="Exception.__new__" then aa ⟨⟨B,E,J,M,O⟩,by rw[h]⟩ else ag|_=>ag
def clsAt(K:fg)(c:aH):Bool:=(clO<|K.lookup c).any λo=>o.1.1.hasDict&&!o.1.1.hasDel&&(anA c o.1.1.mro).any (λb=>lX (.ref c::b.1))&&(anB o.1.2.2.toList).any λZ=>ae
noncomputable def alW(mg:Str->Option ar)(K:fg)(c:aH):Bool:=
 findIn K (.ref c) "__setattr__"==aa (aa<|.builtin "object.__setattr__")&&takerIn K c "why"==aa ag&&takerIn K c "at"==aa ag&&findIn K (.ref c) "__getattribute__"==aa (aa<|.builtin "BaseException.__getattribute__")&&
 findIn K (.ref c) "__getattr__"==aa ag&&findIn K (.ref c) "why"==aa ag
def J7(mg:Str->Option ar)(K:fg):Bool:=(t9<|mg<|Nm.toStr An).any λc=>alW mg K c.1&&clsAt K c.1&&keepIn K (.ref c.1)&&specialIn K (.ref c.1) "__call__"==aa (aa<|.builtin "type.__call__")&&instIn K (.ref c.1) (.type "type")==aa ae&&(mg "Exception").isNone
def EZ(mg:Str->Option ar)(K:fg):Option fY:=(t9<|mg<|Nm.toStr An).bind λc=>Ug K c.1
theorem ajI{k:Wc}(h1:cd.hasDict=ae)(h2:cd.hasDel=aq)(a:cd.mro=.ref c::b)(h4:sl.toList=[k.k0,k.k1,k.k2,k.k3,aa<|.builtin "Exception.__new__",k.k5]):
  Obj.mk (.type "type") d (.cls cd) sl=MP.obj ⟨c,f,cd.ns,b,cd.name,cd.qualname,cd.bases,cd.slotNames,cd.subclasses,cd.abstract,cd.collection,d,k.k0,k.k1,k.k2,k.k3,k.k5,i⟩:=by
 obtain⟨J,M,B,O,q,P,R,sub,S,E,dl⟩:=cd;obtain⟨sl⟩:=sl;dsimp only at h1 h2 a h4;subst h1 h2 a h4;rfl
theorem ajJ(h:J7 C.mg C.K=ae)(hf:EZ C.mg C.K=aa (initParams i,ti i,oa))(hl:(i.ap.endLine==i.cp.line)=ae)(X:Fx)(a:X.C=C):X.pn:=by
 subst a;refine cO hf λc P hf=>cO hf λf S hf=>lg hf λT hf=>aW (Js hf) λV Z=>oz h λc' Z h=>?_;have B:=pH<|bf<|c'.2.symm.trans P;rw[B] at h;exact Gi h λz E Y b J M=>Gi z λd e g j l m=>oz E λo Z E=>mB (b4 E) λn p O q=>oz O λR Z O=>oz q λk Z Z=>
  ⟨⟨c,f,o.1.1.ns,R.1,o.1.1.name,o.1.1.qualname,o.1.1.bases,o.1.1.slotNames,o.1.1.subclasses,o.1.1.abstract,o.1.1.collection,o.1.2.1,k.1.k0,k.1.k1,k.1.k2,k.1.k3,k.1.k5,i⟩,
   ⟨P,Y,o.2.trans<|aw aa<|ajI n ((zi _).mp p) R.2 k.2,O,S,T,bO.mp d,bO.mp e,bO.mp j,bO.mp l,bO.mp m,bO.mp g,bO.mp b,bO.mp J,V,Option.isNone_iff_eq_none.mp M,hl⟩⟩
noncomputable abbrev pw:fO:=PySem.Challenge.pw_pq1116_01
noncomputable def BB:Nm:=[108,97,119]
def agY:List Nm:=["Packet","Scene","Counter","Quota","Rule","Talk"].map λs=>aF<|GZ s
def oP:List (Nm×fY):=pw.main.body.filterMap fun|.FunctionDef name a body _ _ _ B _ _ _=>if aF name==BB then ag else aa (aF name,a,body,B)|_=>ag
def mu:List (Nm×fY):=pw.main.body.filterMap fun|.ClassDef name _ _ (.FunctionDef _ a body _ _ _ B _ _ _::_) _ _ _ _ _ _ _=>if agY.contains (aF name) then aa (aF name,a,body,B) else ag|_=>ag
def vI:Option fY:=pw.main.body.findSome? fun|.FunctionDef name a body _ _ _ B _ _ _=>if aF name==BB then aa (a,body,B) else ag|_=>ag
def I6:List Nm:=oP.map (·.1)++mu.map (·.1)
def mI(x:Nm):Bool:=I6.contains x
noncomputable def me(l:Nat):Nat:=if [531,953].contains l then 2 else if [14,28,35,150,239,244,295,296,298,299,300,301,303,304,306,354,407,418,453,549,834,888,941,942,946,947].contains l then 1 else 0
noncomputable def attrsOf:List (String×List String):=[
 ("Packet",["data","link","kind","l4","off","place","meta"]),
 ("Scene",["packet","now","hook","talk","state","is_reply","talks","sets","objects","fields","readers","doers","ops","tools","order","log","replies","steps","homes"]),
 ("Counter",["packets","octets"]),
 ("Quota",["is_over","octets","used"]),
 ("Rule",["handle","statements","comment","cells","rows","sets"]),
 ("Talk",["number","original","reply","zone","until","since","mark","status","state","sides","master"])]
def qQ:List (Nm×Nm):=attrsOf.flatMap λp=>p.2.map λa=>(aF<|GZ p.1,aF<|GZ a)
def B7(c x:Nm):Bool:=qQ.contains (c,x)
def BC(x:Nm):Option Gl:=match oP.find? (·.1==x) with|some (_,p,b,B)=>aa (.fn<|lD mI me aq p b B)|none=>match mu.find? (·.1==x) with|some (_,p,b,B)=>aa (.cls<|lD mI me aq p b B)|none=>ag
noncomputable def xF:IP:=⟨⟨5,8,5,17⟩,⟨5,8,5,26⟩,⟨5,27,5,31⟩,⟨5,33,5,36⟩,⟨5,8,5,37⟩,⟨5,8,5,37⟩,⟨6,8,6,12⟩,⟨6,8,6,16⟩,⟨6,19,6,22⟩,⟨6,8,6,22⟩,⟨7,8,7,12⟩,⟨7,8,7,15⟩,⟨7,19,7,20⟩,⟨7,18,7,20⟩,⟨7,8,7,20⟩,⟨4,17,4,21⟩,⟨4,23,4,26⟩⟩
def facts(mg:Str->Option ar)(K:fg):Bool×List (Option fY)×List (Option fY)×Option fY×Option fY:=
 (J6 mg K I6 qQ&&J7 mg K,oP.map λp=>tH mg K p.1,mu.map λp=>D7 mg K p.1,tH mg K BB,EZ mg K)
def Es:Bool×List (Option fY)×List (Option fY)×Option fY×Option fY:=
 (ae,oP.map λp=>aa p.2,mu.map λp=>aa p.2,vI,aa (initParams xF,ti xF,oa))
theorem Th{l:List (Nm×fY)}(h:l.find? (·.1==x)=aa (y,p)):(x,p)∈l:=by have e:y=x:=bO.mp (Nt (p:=λq:Nm×fY=>q.1==x) h);exact rws e<|CF h
def U5(x:Nm)(o:Option (Nm×fY)):Option Gl:=match o with|some (_,p,b,B)=>aa (.cls<|lD mI me aq p b B)|none=>ag
def alX(x:Nm)(o:Option (Nm×fY)):Option Gl:=match o with|some (_,p,b,B)=>aa (.fn<|lD mI me aq p b B)|none=>U5 x (mu.find? (·.1==x))
theorem ack(h:facts C.mg C.K=Es):Be C B7 mI/\(∀x g,BC x=aa g->r0 C mI me x g)/\∀p b sc,vI=aa (p,b,sc)->∃a,C.mg "law"=aa (.ref a)/\qx C a p b sc (p.defaults.map λe=>(hV e).getD .none)/\nA p sc (p.defaults.map λe=>(hV e).getD .none).length=ae:=by
 have E:=aw Hf h;have M:oP.map (λp=>tH C.mg C.K p.1)=oP.map (λp=>aa p.2):=aw (λx=>x.2.1) h;have O:mu.map (λp=>D7 C.mg C.K p.1)=mu.map (λp=>aa p.2):=aw (λx=>x.2.2.1) h;have h4:tH C.mg C.K BB=vI:=aw (λx=>x.2.2.2.1) h;have P:EZ C.mg C.K=aa (initParams xF,ti xF,oa):=aw (λx=>x.2.2.2.2) h;have R:∀x g (o:Option (Nm×fY)),mu.find? (·.1==x)=o->U5 x o=aa g->r0 C mI me x g:=λx g o J B=>by induction o using aO with|none=>exact bk B|some q=>exact rws (bf B) (ajF<|List.map_inj_left.mp O _<|Th J)
 have S:∀x g (o:Option (Nm×fY)),oP.find? (·.1==x)=o->alX x o=aa g->r0 C mI me x g:=λx g o J B=>by induction o using aO with|none=>exact R x g _ rfl B|some q=>exact rws (bf B) (alV<|List.map_inj_left.mp M _<|Th J)
 exact sC E λE T=>cv (ajH E λX V=>ajJ T P (dc rfl) X V) (λx g B=>S x g _ rfl B) λp b sc Y=>Tg<|h4.trans Y
end
section
open PySem PySem.W
noncomputable def FF(ok:zj->Bool)(st:nU->zj->Option (nU×zj)):Nat->nU->zj->Option nU:=
 @Nat.rec (λZ=>nU->zj->Option nU) (λZ Z=>ag) (λZ B s t=>
  match through t with
  |true=>aa s
  |false=>match ok t with
   |false=>ag
   |true=>match st s t with
    |some (E,J)=>B E J
    |none=>ag)
theorem agZ{tb:String->Option Builtin}{p:fO}{w:eh}{c:Nat}{a:Option ar}(n:Nat):∀(s r:nU)(t:zj),
  FF (stepOk c a) (stepT (denote tb) p w) n s t=aa r->topRun tb p w c a n s.abs t=aa r.abs:=by
 induction n with
 |zero=>exact λs r t h=>bk h
 |succ n ih=>
  intro s r t
  have J:∀(b k:Bool)(o:Option (nU×zj))(M:Step),(∀B E,o=aa (B,E)->M=.go B.abs E)->
    (match b with
    |true=>aa s
    |false=>match k with
     |false=>ag
     |true=>match o with
      |some (B,E)=>FF (stepOk c a) (stepT (denote tb) p w) n B E
      |none=>ag)=aa r->(match b with
    |true=>aa s.abs
    |false=>match k with
     |false=>ag
     |true=>match M with
      |.go B E=>topRun tb p w c a n B E
      |.halt _ _=>ag)=aa r.abs:=by
   intro b k o M O
   induction b using aS with
   |true=>exact λh=>aw (λx=>aa x.abs)<|bf h
   |false=>
    induction k using aS with
    |false=>exact λh=>bk h
    |true=>
     induction o using aO with
     |none=>exact λh=>bk h
     |some x=>exact λh=>rwl (O x.1 x.2 rfl)<|ih _ _ _ h
  exact J _ _ _ _ λB E e=>stepT_spec e
noncomputable def T0(P:Params):BT:=.node (boot_o_0 P) (.node (boot_o_1 P) (.node (boot_o_3 P) (.node (boot_o_7 P) .nil .nil) .nil)<|.node (boot_o_5 P) (.node (boot_o_9 P) .nil .nil) .nil)
 (.node (boot_o_2 P) (.node (boot_o_4 P) (.node (boot_o_8 P) .nil .nil) .nil)<|.node (boot_o_6 P) (.node (boot_o_10 P) .nil .nil) .nil)
theorem ajK(P:Params):absHeap (T0 P) 11 {}=pS P:=by kernel_rfl
def S0(w:eh)(os:ra):nU:=⟨T0 w.params,11,{},#[],XO,boot_toks,os⟩
def yw(n:Nat)(w:eh)(os:ra):Option nU:=
 FF (Fast.tw6613529449190102663 11<|(pS w.params).nsMap mainGlobals "__annotations__") (Fast.tw10156331382660048174 (Fast.tw11892475500146522536 Fast.tw14364793385576792824) pw w) n (S0 w os) (topStub pw)
theorem ag0(n:Nat)(w:eh)(os:ra):yw n w os=FF (stepOk 11<|(pS w.params).nsMap mainGlobals "__annotations__") (stepT (denote treeTable) pw w) n (S0 w os) (topStub pw):=by
 unfold yw
 rw[<-Fast.te6613529449190102663,<-Fast.te10156331382660048174,<-Fast.te11892475500146522536,<-Fast.te14364793385576792824]
def qw:fO:=view pw [pw.main.body.length-1]
def loose:List Str:=pw.boundNames.filter λn=>!(n=="law")
noncomputable def uc:z0:=(gb 263).map λi=>0x3e5f9be0f87d9f6bd2f4fcbf33c4f17bdefbb6edfafec3a8ea7a1e8b9ae6f93e538ce3785e1b7edff77de370dc76bdb364d975dd7b56d5f4fd4348d2741d0b3acef35cdb2ecbf27ca320c8719c6b12c4f0bc3304c16fdbfaf6bdeefbc2e8ba6e1b8adab6ed3b52ccb36c5b1abeafeb7ae2b0ac67e9fe779e2709c6699aa6298e5b972549564d93a05819fe7fdf77e1f07c5e97a9e278ddb771d4755cd739c671dbf701b86e5b16c9aa6ada36919c675956598e63d8762180605795e9725cd555594e53d4752140505394e9344d52d4b92649d1f48118465114490a42cfd40d043ecfc37ce0360d9344d2328cb30cc42f0bd2d4b62b8af29ca8280a126c9c250952348e218871fc801e0791c4721a86b18c641705d154561384f11c48100410781f06c1c0ac2ca8aa3a96a6a1e8da3a90a46248aa2b8b62e83a14856178615e5916559d683b4ee3c0f1>>>(10*i)%1024
def tO(l:z0)(t:BT)(n:Nat):fg:=l.filterMap λa=>if Nat.blt a n then(t.get a).bind λo=>(alive o).map λo=>(a,o) else ag
set_option tactic.hygienic true in
theorem aeh(l:z0)(t:BT)(n:Nat)(life:Life):(tO l t n).In (absHeap t n life):=by
 intro a o e
 have E:=List.mem_filterMap.mp<|lookup_mem e
 refine bo E λb Z B=>?_
 split at B
 ·rename_i J
  refine lZ B λR M B=>?_
  refine ej B λS O P=>?_
  cases P
  rw[abs_get (qT J) M,O]
 ·cases B
def We(s:nU):=oP.map λp=>tH (s.abs.heap.nsMap mainGlobals) (tO uc s.tree s.n) p.1
def Wg(s:nU):=(J6 (s.abs.heap.nsMap mainGlobals) (tO uc s.tree s.n) I6 qQ,mu.map λp=>D7 (s.abs.heap.nsMap mainGlobals) (tO uc s.tree s.n) p.1,J7 (s.abs.heap.nsMap mainGlobals)<|tO uc s.tree s.n,tH (s.abs.heap.nsMap mainGlobals) (tO uc s.tree s.n) BB,EZ (s.abs.heap.nsMap mainGlobals)<|tO uc s.tree s.n)
noncomputable def LkB(w:eh)(s:nU):=(staticsOk (importedModules pw.main.body) (pS w.params) s.abs.heap&&namesBound pw s.abs.heap&&gensDone s.abs&&laidKept (pS w.params) s.abs.heap,openSeen qw loose (importedModules pw.main.body) (λZ=>ae) ae s.abs)
theorem rA(w:eh)(os:ra):(yw 6300 w os).map We=aa (oP.map λp=>aa p.2):=by kernel_rfl
theorem rC(w:eh)(os:ra):(yw 6300 w os).map Wg=aa (ae,mu.map λp=>aa p.2,ae,vI,aa (initParams xF,ti xF,oa)):=by kernel_rfl
theorem rB(w:eh)(os:ra):(yw 6300 w os).map (LkB w)=aa (ae,openGood qw loose):=by kernel_rfl
theorem alY(w:eh)(os:ra):∃r,yw 6300 w os=aa r/\(staticsOk (importedModules pw.main.body) (pS w.params) r.abs.heap&&namesBound pw r.abs.heap&&gensDone r.abs&&laidKept (pS w.params) r.abs.heap)=ae/\
  openSeen qw loose (importedModules pw.main.body) (λZ=>ae) ae r.abs=openGood qw loose/\facts (r.abs.heap.nsMap mainGlobals) (tO uc r.tree r.n)=Es:=by
 have E:=rC w os
 have J:=rB w os
 refine ej (rA w os) λr M O=>?_
 rw[M] at J E
 have P:=bf J
 have B:=bf E
 refine⟨r,M,aw Hf P,aw XQ P,?_⟩
 have R:=aw Hf B
 have S:=aw (λx=>x.2.1) B
 have T:=aw (λx=>x.2.2.1) B
 have b2:=aw (λx=>x.2.2.2.1) B
 have b3:=aw (λx=>x.2.2.2.2) B
 dsimp only[We,Wg] at R O S T b2 b3
 unfold facts Es
 rw[R,O,S,T,b2,b3]
 rfl
end
section
open PySem PySem.Calls PySem.W PyProof.Rows
noncomputable def Yp(h:eM):Prop:=∃B K,h.Ns mainGlobals B/\K.In h/\facts B K=Es
noncomputable def Yf(s:az):Bool:=@decide (Yp s.heap)<|nO _
theorem Yp.keeps(x:Yp h)(k:∀b o,h.get? b=aa o->h'.get? b=aa o):Yp h':=cP x λB K E J M=>fX B K (E.keeps k) (J.keeps k) M
theorem aei:opening pw=plainProg pw.main.scope.names:=by kernel_rfl
theorem aej(s):fenceModules? pw s=aa s:=by kernel_rfl
theorem ag1(w:eh):((pS w.params).isNs mainGlobals&&(XR []:Array GenState).size==0)=ae:=by kernel_rfl
theorem left:LeftO pw qw loose (λZ=>ae) Yf (λZ=>ae) 6300:=λw=>by
 have b:=boot_open (p:=pw) (N:=6300) aei rfl aej w;refine ej b λT V B=>?_;obtain⟨h,g,d,k,os⟩:=T;refine rN B λJ B=>rN B λM B=>rN B λO P=>?_;dsimp only at J M O P;subst J M O P;refine uh (alY w os) λr R E Y a=>?_;rw[ag0] at R;have S:=agZ _ _ _ _ R;have c:(S0 w os).abs=⟨pS w.params,XR [],XO,boot_toks,os⟩:=by unfold S0 SharedT.abs;rw[ajK ..]
 rw[c] at S;unfold openEnds;rw[V,wM ..];unfold topFrom;dsimp only;rw[ag1 w];dsimp only;rw[show topRun treeTable pw w (pS w.params).objs.size ((pS w.params).nsMap mainGlobals "__annotations__") 6300 ⟨pS w.params,XR [],XO,boot_toks,os⟩ (topStub pw)=aa r.abs from S,wM ..,E];dsimp only;rw[Option.map_some ..,Y];have e:r.abs.heap.isNs mainGlobals=ae:=by simp only[yY] at E;refine aW E λf Z=>aW f λi Z=>aW i λZ q=>?_;unfold namesBound at q;exact(Bool.and_eq_true_iff.mp q).1
 have j:Yf r.abs=ae:=@decide_eq_true _ (nO _)<|fX _ _ (Heap.Ns.of_isNs e) (aeh uc r.tree r.n _) a;rw[j]
noncomputable abbrev rw:OpenLaw:=PySem.Challenge.rw_pq1116_01
theorem alZ:sreFenced pw.main=ae:=by kernel_rfl
theorem al0:((moduleNames pw.main.body).isEmpty||lookedIntoSs (moduleNames pw.main.body) pw.main.body)=ae:=by kernel_rfl
theorem al1:namesResolve pw=ae:=by kernel_rfl
theorem al2:pw.boundNames.all (λn=>!worldNames.contains n)=ae:=by kernel_rfl
theorem al3:noRoadLSs {strict:=!(importedModules pw.main.body).all cThrough.contains,foot:=ag,bare:=(["vars","dir","locals"]:List Str).filter (readsOut pw pw.main.body)} pw.main.body=ae:=by kernel_rfl
theorem al4:(namesMeet pw pw.main.body λZ n=>attrL n)=ae:=by kernel_rfl
theorem al5:noRoadLSs {strict:=ae,foot:=aa rw.bound',writes:=rw.writes,may:=rw.may} rw.footing=ae:=by kernel_rfl
theorem al6:rw.footing.all footLine=ae:=by kernel_rfl
theorem al7:noClassBlock rw.prog rw.footing=ae:=by kernel_rfl
theorem ajL:defStands rw.about rw.above=ae:=by kernel_rfl
theorem ajM:rw.namesIt=ae:=by kernel_rfl
theorem ajN:rw.bound'.all (λn=>!builtinNamed n||rw.about==[n]||!rw.reads n)=ae:=by kernel_rfl
theorem ajO:(rw.prog.main.body.flatMap importedNames).all (λn=>!rw.reads n||(drawsOf n rw.prog.main.body).all λa=>a.2 !=("attrgetter":Str)&&a.2 !=("methodcaller":Str))=ae:=by kernel_rfl
theorem ajP:namesMeet rw.prog rw.footing (λsc n=>(!(["type","isinstance","issubclass","getattr","hasattr"]:List Str).contains n||sc.names.lookup n==aa .globalImplicit)&&
  (rw.may !=aa n||sc.kind==.module||sc.names.lookup n==aa .globalImplicit))=ae:=by kernel_rfl
theorem ajQ:rw.own.contains rw.name=ae:=by kernel_rfl
theorem ajR:(rw.own.eraseDups.length==rw.own.length)=ae:=by kernel_rfl
theorem ajS:rw.own.all (λn=>!builtinNamed n)=ae:=by kernel_rfl
theorem ajT:namesMeet rw.prog rw.above (λZ n=>!rw.own.contains n)=ae:=by kernel_rfl
theorem ajU:(namesMeet rw.prog rw.footing λsc n=>sc.kind==.module||sc.names.lookup n !=aa .globalExplicit)=ae:=by kernel_rfl
theorem ajV:rw.row.prog.boundNames.contains rw.row.name=ae:=by kernel_rfl
theorem ajW:(!startupNames.contains rw.row.name)=ae:=by kernel_rfl
theorem ajX:decide (rw.foot<=(behindTheImports rw.prog).length)=ae:=by kernel_rfl
theorem QL:rw.wellSaid=ae:=by
 have l:looksOpen pw=ae:=by
  unfold looksOpen
  rewrite(occs:=.all) [alZ,al0,al1,al2,al3,al4];rfl
 have p:rw.row.partSaid=ae:=by
  unfold OpenRow.partSaid
  rewrite(occs:=.all) [show looksOpen rw.row.prog=ae from l]
  kernel_rfl
 have w:rw.row.wellSaid=ae:=by
  unfold OpenRow.wellSaid
  rewrite(occs:=.all) [p,ajV,ajW];rfl
 unfold OpenLaw.wellSaid
 rewrite(occs:=.all) [w,ajX,al6,al7,al5,ajL,ajM,ajN,ajO,ajP,ajQ,ajR,ajS,ajT,ajU]
 kernel_rfl
def FH:Fn:=match vI with|some (p,b,B)=>lD mI me ae p b B|none=>⟨0,[],0,[]⟩
noncomputable def PL:Prop:=∀xs:List Int,xs.length<=63->(∀i∈xs,i.natAbs.log2<1048577)->∃m,hH B7 (eW B7 BC 20) FH [.lst<|xs.map .int] []=.ok (.bool ae) m
theorem ajY:∃d a,defOf qw rw.row.name=aa (d,a)/\pw.theDef rw.row.name=aa (d.params,d.body,d.scope)/\kwWritten? d.params.kwonlyargs d.params.kw_defaults=aa a:=by
 have h:((defOf qw rw.row.name).map λp=>(pw.theDef rw.row.name,kwWritten? p.1.params.kwonlyargs p.1.params.kw_defaults))=(defOf qw rw.row.name).map λp=>(aa (p.1.params,p.1.body,p.1.scope),aa p.2):=by kernel_rfl
 have B:(defOf qw rw.row.name).isSome=ae:=by kernel_rfl
 refine Bo B λE e=>?_;obtain⟨d,a⟩:=E;replace h:=(e)▸h;have h:=bf h;exact fX d a e (aw Hf h)<|aw XQ h
theorem ajZ:(chainsOk qw&&opensWell pw&&(api rw.row.toRowW&&rw.row.within.isEmpty))=ae:=by kernel_rfl
theorem aek:pw.bare:=⟨rfl,rfl,rfl,rfl,rfl,by kernel_rfl⟩
theorem ZD:rw.row.toRowW.promised:=i12 ([.list [.int 3,.int 1]]) (by kernel_rfl) (by kernel_rfl)
theorem acm:∃p b sc,vI=aa (p,b,sc):=by
 have B:vI.isSome=ae:=by kernel_rfl
 refine Bo B λE e=>?_;obtain⟨p,b,sc⟩:=E;exact i31 p b sc e
section
variable{P:Params}{h:eM}
theorem U6{vs:Ld}(w:NG P h vs []):vs=[]:=WellAll.casesOn (motive_2:=λvs B Z=>B=[]->vs=[]) w (λZ=>rfl) (λZ Z e=>nomatch e) rfl
noncomputable def isL(d:CR):Bool:=d.ctorIdx==4
theorem al8{v:ar}{d:CR}{l:List CR}{G:Prop}(w:Well P h v d)(e:d=.list l)(k:∀a vs,v=.ref a->h.get? a=aa {cls:=.type "list",data:=.seq vs.toArray}->NG P h vs l->G):G:=by induction w using Well.casesOn with|list g w=>exact k _ _ rfl g (rws (NI.inj e) w)|_=>exact dG (aw isL e)
end
theorem ints_of{C:Cx}{F:Fz}{ι:lk}{P:Params}{h:eM}{R:WRecords}{xs:List CR}:∀{vs:Ld},NG P h vs xs->WShape.hasItems R xs .int=ae->
  ∃is:List Int,xs=is.map .int/\aU C F ι vs (is.map .int):=by
 induction xs with|nil=>exact λw Z=>i12 [] rfl (rwl (U6 w) .nil)|cons d V B=>intro vs w E;refine mh E λJ M=>?_;refine cP (wellAll_cons_inv w) λv Y e O S=>?_;refine bo (B S M) λis T r=>?_;refine rwl e<|rwl T ?_;induction O using Well.casesOn with|int i t=>exact i12 (i::is) rfl (.cons (.int i t) r)|_=>exact dG J
theorem O7:∀{is:List Int}{i:Int},i∈is->i.natAbs.log2<=XS (is.map .int)
 |j::is,i,h=>by
  rw[iN,XS];rcases sS.mp h with rfl|h
  ·rw[WData.weight];by_cases c:i=0
   ·subst c;exact nP _
   ·rw[aB (by simpa using c)];lia
  ·have:=O7 h;lia
theorem mJ{l:List CR}(h:(WTm.and (.not<|.lt (.lit<|.int 63)<|.len<|.arg 0)<|.lit<|.bool ae).holds [] {args:=[NI l]}=ae):l.length<=63:=Classical.byContradiction λc=>by
 have B:(WTm.lt (.lit<|.int 63)<|.len<|.arg 0).value [] {args:=[NI l]}=aa (.bool ae):=by rewrite[WTm.value.eq_11];rewrite[WTm.value.eq_5,WTm.value.eq_17,WTm.value.eq_1];exact aw (λb=>aa<|WData.bool b)<|decide_eq_true<|Int.ofNat_lt.mpr<|zk c
 have E:(WTm.not<|.lt (.lit<|.int 63)<|.len<|.arg 0).value [] {args:=[NI l]}=aa (.bool aq):=by rewrite[WTm.value,B];rfl
 have J:(WTm.and (.not<|.lt (.lit<|.int 63)<|.len<|.arg 0)<|.lit<|.bool ae).value [] {args:=[NI l]}=aa (.bool aq):=by rewrite[WTm.value,E];rfl
 unfold WTm.holds at h;rewrite[J] at h;exact dG h
theorem aj0{args:List CR}(h:rw.row.claim.pre args=ae)(hl:XN args=ae):∃l,args=[.list l]/\WShape.hasItems [] l .int=ae/\l.length<=63/\XS l<=1048576:=by
 refine mh h λB E=>?_
 match args,B with
 |[],B=>exact dG B
 |d::e::r,B=>
  exfalso;have:(WShape.has [] d (.list .int)&&aq)=ae:=B;rw[y6] at this;exact dG this
 |[d],B=>
  have B:(WShape.has [] d (.list .int)&&ae)=ae:=B;replace B:=(Cv ..)▸B;induction d using PySem.W.WData.casesOn with
  |list l=>
   refine vK l rfl ?_ ?_ ?_
   ·exact(Bool.or_false _).symm.trans B
   ·exact mJ E
   ·have:(WData.layable (.list l)&&ae)=ae:=hl;replace this:=(Cv ..)▸this;have:=of_decide_eq_true (Bool.and_eq_true_iff.mp this).2;exact this
  |_=>exact aT (show aq=ae from B) dq
theorem holds_of(hp:PL):rw.row.Holds:=by
 refine cP ajY λd qM c B E=>?_;refine ajC (q:=qw) (loose:=loose) (Xt:=λZ=>ae) (XP:=λZ Z=>True) (YP:=λZ h=>Yp h) left (λw s e=>@of_decide_eq_true _ (nO _) e) (λw h h' x k=>x.keeps k)
  (λs Z=>trivial) (λZ Z Z Z Z=>trivial) c B E rfl rfl (row_said QL) ajZ aek ZD ?_
 intro w bc J mg mb G H a o pm cd I dV kV ho L yM hD M N args vals as Q U v9 W Mm;refine cP H λf K X y2 y3=>?_;obtain rfl:f=mg:=funext λx=>X.agree G.T.g x;let C:Cx:={prog:=pw,w:=w,mg:=f,mb:=mb,K:=K};refine fW (ack (C:=C) y3) λT hT hL=>?_;refine VH acm λp b n t=>?_;refine cA (hL p b n t) λu Mn hF hS=>?_;have hn:d.name="law":=defOf_name c;replace M:=(hn)▸M;obtain rfl:a=u:=by have e:aa (kY a)=aa (.ref u):=M.symm.trans Mn;cases e;rfl
 refine uh (aj0 Q U) λl O q1 q2 q3=>?_;subst O;refine cP (wellAll_cons_inv W) λv0 vs0 e0 hw S=>?_;refine al8 hw rfl λa0 vs1 e1 V ny=>?_;refine rwl e0 ?_;refine rwl e1 ?_;refine rwl (U6 S) ?_;refine bo (ints_of (C:=C) (F:=λa=>J.heap.get? a) (ι:=[]) ny q1) λis O S=>?_;subst O;refine bu (hp is (by simpa using q2) λi hi=>bS (O7 hi)<|bS q3<|dc rfl) λm hm=>?_;have Y:FH=lD mI me ae p b n:=by unfold FH;rw[t]
 have hc:=Tf (C:=C) (hint:=me) (r:=.ok (.bool ae) m) T (ajA T hT 20) ae (fr:=[]) (l:=[.lst<|is.map .int]) (m:=[]) (F:=λa=>J.heap.get? a) (ι:=[]) (s:=J) (vals:=[_]) (A:=callerA) hF hS (λZ=>rfl)
  ⟨rfl,dl rfl,dl rfl,rfl⟩ (λe Y=>nomatch Y)
  ⟨λh k=>G.T.g.keeps k,λh k=>G.T.b.keeps k,λh k=>G.T.nolimit.keeps k,λh k=>y2.keeps k,G.T.builtins⟩
  (St.refl (λZ Z h=>h) rfl (λi a o h=>bk h) (λa h=>nomatch h) (λi j a h=>bk h) λa h=>nomatch h)
  (.cons (.lst V rfl rfl ⟨rfl,rfl⟩ (by simpa using S)) .nil) (by rw[<-Y];exact hm) (λh=>nomatch h)
 refine P.call (P.qa hc λr s' hk=>?_);refine nu.casesOn hk (λv d' m' F' av y e z Gn=>?_) λe why m' F' av y e' Z Z=>Internal.R.noConfusion rfl<|heq_of_eq e';have hv:=om<|rwl (R.ok.inj e).1 Gn;subst hv;refine rwl y ?_;refine iX z.same λhh tk D=>?_;exact lG (.inl (sd _ (.bool ae) ([]) rfl (λcls=>rfl) (.bool ae) (by kernel_rfl) λZ=>⟨Nr,λa h=>nomatch h⟩)) (.of_keep λb o hb=>z.kp b o hb<|CA) (by rw[D]) (.of_eq (by rw[D];exact N))
theorem apK(hp:PL):rw.Holds:=holds_law QL λZ=>holds_of hp
end
section
open PySem
noncomputable abbrev KR:=R V->Prop
noncomputable abbrev KF:=Fl->Prop
noncomputable def oK(o:La)(m:J)(K:KR):Prop:=match o with|some u=>K (.ok u m)|none=>K .H
noncomputable def bK(p:Prop)[Decidable p](m:J)(K:KR):Prop:=match decide p with|true=>K (.ok (.bool ae) m)|false=>K<|.ok (.bool aq) m
noncomputable def dP(p:Prop):Bool:=@decide p<|nO p
noncomputable def iK(b:Bool)(m:J)(K:KR):Prop:=match b with|true=>K (.ok (.bool ae) m)|false=>K<|.ok (.bool aq) m
noncomputable def r7{α:Type}(l:List α)(i:Int):Option α:=match i with|.ofNat n=>cond (pG 1000000 n) ag l[n]?|_=>ag
def ky(m:J)(a i:V):La:=match rv m a with|.tup l=>i.dw.bind λi=>r7 l i.1|.lst l=>i.dw.bind λi=>r7 l i.1|.bb l=>i.dw.bind λi=>(r7 l i.1).map λ(b:Nat)=>.int b|.bar l=>i.dw.bind λi=>(r7 l i.1).map λ(b:Nat)=>.int b|.aA l=>i.oJ.bind λx=>look x.1 l|.ref j=>i.dw.bind λi=>(Bp m[j]?).bind λl=>gp i.1 l.1|_=>ag
def U7(o:BO)(a b:V):La:=match a with
 |.int a=>(match b with
  |.int b=>(intOp o a b).map .int
  |_=>ag)
 |_=>iz o a b
def E0(x:Nm)(o:Option O):La:=match o with|some (.aA l)=>look x l|_=>ag
def E1(ok:Nm->Nm->Bool)(m:J)(v:V)(x:Nm):La:=match v with|.inst c i=>cond (ok c x) (E0 x m[i]?) ag|_=>ag
def E2(m:J)(i:Nat)(x:Nm)(v:V)(o:Option O):Option J:=match o with|some (.aA l)=>if l.length<100000 then aa (m.set i<|.aA<|putD x v l) else ag|_=>ag
def DQ(ok:Nm->Nm->Bool)(m:J)(o:V)(x:Nm)(v:V):Option J:=match o with|.inst c i=>cond (ok c x) (E2 m i x v m[i]?) ag|_=>ag
def AU(m:J)(j:Nat)(i v:V)(o:Option O):Option J:=match o with
 |some (.lst l)=>(match i with
  |.int i=>if 0<=i/\i<l.length/\l.length<1000000 then aa (m.set j<|.lst<|l.set i.toNat v) else ag
  |_=>ag)
 |some (.aA l)=>(match i with
  |.str x=>if l.length<100000 then aa (m.set j<|.aA<|putD x v l) else ag
  |_=>ag)
 |some (.bW l)=>(match i with
  |.int x=>if l.length<100000 then aa (m.set j<|.bW<|mj x v l) else ag
  |_=>ag)
 |_=>ag
def uS(m:J)(o i v:V):Option J:=match o with|.ref j=>AU m j i v m[j]?|_=>ag
noncomputable def J8(m:J)(i:Nat)(u:V)(o:Option O):Option J:=match o with|some (.lst l)=>if l.length<100000 then aa (m.set i<|.lst<|l++[u]) else ag|_=>ag
def KP(m:J)(v u:V):Option J:=match v with|.ref i=>J8 m i u m[i]?|_=>ag
def mv(m:J)(a:V)(lo hi:La):La:=cond (dP True) (t6 m a lo hi) ag
noncomputable def pq{α:Type}(l:List α)(k:List α->Prop):Prop:=match l with|[]=>k []|a::r=>pq r λr=>k (a::r)
noncomputable def dj{α β:Type}(F:(R β->Prop)->α->J->Prop)(K:R β->Prop)(r:R α):Prop:=match r with|.ok v m=>F K v m|.exc y m=>K (.exc y m)|.H=>K .H
noncomputable def hK(r:R V)(K:KR):Prop:=∀B,r=B->K B
noncomputable def B8(o:La)(y:Bool)(m:J)(K:KR):Prop:=match o with|some _=>K (.ok (.bool y) m)|none=>K<|.ok (.bool !y) m
noncomputable def nK(o:Option Bool)(y:Bool)(m:J)(K:KR):Prop:=match o with|some b=>K (.ok (.bool<|b==y) m)|none=>K .H
noncomputable def FI(v:V)(x:Nm)(y:Bool)(m:J)(K:KR):Prop:=match v with|.aA l=>B8 (look x l) y m K|.tup l=>nK (yl (.str x) l) y m K|_=>K .H
noncomputable def BD(P:Int->Int->Prop)(o:CO)(v u:V)(m:J)(K:KR):Prop:=match v with
 |.int a=>(match u with
  |.int b=>iK (dP<|P a b) m K
  |_=>oK (fF m o v u) m K)
 |_=>oK (fF m o v u) m K
noncomputable def KQ(P:Int->Int->Prop)(S:Nm->Nm->Prop)[D:∀a b,Decidable<|S a b](o:CO)(v u:V)(m:J)(K:KR):Prop:=match v with
 |.int a=>(match u with
  |.int b=>iK (dP<|P a b) m K
  |_=>oK (fF m o v u) m K)
 |.str a=>(match u with
  |.str b=>@bK (S a b) (D a b) m K
  |_=>oK (fF m o v u) m K)
 |_=>oK (fF m o v u) m K
noncomputable def U8(m:J)(o:CO)(v u:V)(K:KR):Prop:=match o with
 |.lt=>BD (λa b=>a<b) .lt v u m K
 |.le=>BD (λa b=>a<=b) .le v u m K
 |.gt=>BD (λa b=>b<a) .gt v u m K
 |.ge=>BD (λa b=>b<=a) .ge v u m K
 |.eq=>KQ (λa b=>a=b) (λa b=>a=b) .eq v u m K
 |.ne=>KQ (λa b=>¬a=b) (λa b=>¬a=b) .ne v u m K
 |.mem=>(match v with
  |.str x=>FI (rv m u) x ae m K
  |_=>oK (fF m .mem v u) m K)
 |.lu=>(match v with
  |.str x=>FI (rv m u) x aq m K
  |_=>oK (fF m .lu v u) m K)
 |.is=>oK (fF m .is v u) m K
 |.tM=>oK (fF m .tM v u) m K
noncomputable abbrev KK:=J->KR->Prop
noncomputable def anD(K:KR)(vs:mV)(m:J):Prop:=K<|.ok (.tup vs) m
noncomputable def anE(K:KR)(vs:mV)(m:J):Prop:=K<|.ok (.lst vs) m
noncomputable def al9(K:KR)(vs:mV)(m:J):Prop:=K<|.ok (.ref m.length)<|m++[.lst vs]
noncomputable def oD(o:Option (List<|Nm×V))(m:J)(K:KR):Prop:=match o with|some l=>K (.ok (.aA<|eG [] l) m)|none=>K .H
noncomputable def oM(o:Option (List<|Nm×V))(m:J)(K:KR):Prop:=match o with|some l=>K (.ok (.ref m.length)<|m++[.aA<|eG [] l])|none=>K .H
noncomputable def anF(K:KR)(ps:List (V×V))(m:J):Prop:=oD (j5 ps) m K
noncomputable def ama(K:KR)(ps:List (V×V))(m:J):Prop:=oM (j5 ps) m K
noncomputable def amb(ok:Nm->Nm->Bool)(x:Nm)(K:KR)(v:V)(m:J):Prop:=oK (E1 ok m v x) m K
noncomputable def amc(v:V)(K:KR)(j:V)(m:J):Prop:=oK (ky m v j) m K
noncomputable def anG(a:KK)(K:KR)(v:V)(m:J):Prop:=a m<|dj (amc v) K
noncomputable def amd(v:V)(lo:La)(K:KR)(hi:La)(m:J):Prop:=oK (mv m v lo hi) m K
noncomputable def ame(v:V)(a:J->(R La->Prop)->Prop)(K:KR)(lo:La)(m:J):Prop:=a m<|dj (amd v lo) K
noncomputable def anH(a b:J->(R La->Prop)->Prop)(K:KR)(v:V)(m:J):Prop:=a m<|dj (ame v b) K
noncomputable def aj1(a:Nm->mV->J->KR->Prop)(x:Nm)(K:KR)(vs:mV)(m:J):Prop:=a x vs m K
noncomputable def amf(a:Nm->mV->J->KR->Prop)(ks:J->(R mV->Prop)->Prop)(K:KR)(g:V)(m:J):Prop:=match g with|.fn x=>ks m (dj (aj1 a x) K)|_=>K .H
noncomputable def U9(a b:V):La:=match a with
 |.int a=>(match b with
  |.int b=>aa (.int (if b<a then b else a))
  |_=>ag)
 |_=>ag
noncomputable def Va(a b:V):La:=match a with
 |.int a=>(match b with
  |.int b=>aa (.int (if a<b then b else a))
  |_=>ag)
 |_=>ag
noncomputable def Wi(b:BI)(l:mV)(m:J)(K:KR):Prop:=match b,l with|.len,[d]=>oK (ma m d) m K|.range,l=>oK (D3 l) m K|.sum,[d]=>oK (EO m d) m K|.min,[a,b]=>oK (U9 a b) m K|.max,[a,b]=>oK (Va a b) m K|.sorted,[d]=>oK (DM m d) m K|.bytes,[d]=>oK (lq m d) m K|.tuple,[d]=>oK (Am m d) m K|.isinstance,[a,b]=>oK (A3 m a b) m K|b,l=>K<|qF b l m
noncomputable def cBi(b:BI)(K:KR)(vs:mV)(m:J):Prop:=Wi b vs m K
noncomputable def sK(o:Option J)(K:KR):Prop:=match o with|some m=>K (.ok .none m)|none=>K .H
noncomputable def amg(v:V)(K:KR)(u:V)(m:J):Prop:=sK (KP m v u) K
noncomputable def B9(b:Bool)(k:KK)(m:J)(K:KR)(a:KR):Prop:=match b with|true=>k m a|false=>K .H
noncomputable def anI(a:KK)(K:KR)(v:V)(m:J):Prop:=B9 (d9 m v) a m K<|dj (amg v) K
noncomputable def Mo(o:La)(m:J)(K:KR):Prop:=match o with|some v=>K (.ok v m)|none=>K<|.ok .none m
noncomputable def J9(v:V)(K:KR)(u:V)(m:J):Prop:=match rv m v,u with|.aA l,.str x=>Mo (look x l) m K|_,_=>K .H
noncomputable def anJ(a:KK)(K:KR)(v:V)(m:J):Prop:=B9 (A4 m v) a m K<|dj (J9 v) K
noncomputable def amh(o:BO)(v:V)(K:KR)(u:V)(m:J):Prop:=oK (U7 o (rv m v)<|rv m u) m K
noncomputable def anK(o:BO)(a:KK)(K:KR)(v:V)(m:J):Prop:=a m<|dj (amh o v) K
noncomputable def ami(o:CO)(v:V)(K:KR)(u:V)(m:J):Prop:=U8 m o v u K
noncomputable def anL(o:CO)(a:KK)(K:KR)(v:V)(m:J):Prop:=a m<|dj (ami o v) K
noncomputable def Vb(K:KR)(v:V)(m:J):Prop:=match v with|.bool b=>K (.ok (.bool !b) m)|_=>K .H
noncomputable def Vc(K:KR)(v:V)(m:J):Prop:=match v with|.int i=>K (.ok (.int<|-i) m)|_=>K .H
noncomputable def Ve(a b:KK)(K:KR)(v:V)(m:J):Prop:=match v with|.bool ae=>a m K|.bool aq=>b m K|_=>K .H
noncomputable def Ka(K:KR)(v:V)(m:J):Prop:=match v with|.bool b=>K (.ok (.bool b) m)|_=>K .H
noncomputable def Vf(a:KK)(K:KR)(v:V)(m:J):Prop:=match v with|.bool ae=>a m K|.bool aq=>K (.ok (.bool aq) m)|_=>K .H
noncomputable def Wj(a:KK)(K:KR)(v:V)(m:J):Prop:=match v with|.bool aq=>a m K|.bool ae=>K (.ok (.bool ae) m)|_=>K .H
noncomputable def aj2(v:V)(L:R mV->Prop)(vs:mV)(m:J):Prop:=L<|.ok (v::vs) m
noncomputable def amj(a:J->(R mV->Prop)->Prop)(L:R mV->Prop)(v:V)(m:J):Prop:=a m<|dj (aj2 v) L
noncomputable def aj3(v u:V)(L:R (List<|V×V)->Prop)(vs:List (V×V))(m:J):Prop:=L<|.ok ((v,u)::vs) m
noncomputable def aj4(v:V)(a:J->(R (List<|V×V)->Prop)->Prop)(L:R (List<|V×V)->Prop)(u:V)(m:J):Prop:=a m<|dj (aj3 v u) L
noncomputable def amk(a:KK)(b:J->(R (List<|V×V)->Prop)->Prop)(L:R (List<|V×V)->Prop)(v:V)(m:J):Prop:=a m<|dj (aj4 v b) L
noncomputable def aml(L:R La->Prop)(v:V)(m:J):Prop:=L<|.ok (aa v) m
noncomputable def vr(o:Option mV)(n:Nat)(K:KR)(f:mV->Prop):Prop:=match o with|some l=>if l.length=n then f l else K .H|none=>K .H
noncomputable def Bf(o:La)(K:KR)(f:V->Prop):Prop:=match o with|some v=>f v|none=>K .H
noncomputable def ud(next:V->J->Prop)(K:KR)(r:R V):Prop:=match r with|.ok v m=>next v m|_=>K .H
noncomputable def Bg(a no:J->Prop)(K:KR)(r:R V):Prop:=match r with|.ok (.bool ae) m=>a m|.ok (.bool aq) m=>no m|_=>K .H
noncomputable def j9(cond b:Env->KK)(fr:Env)(a:V)(kdx:Bool)(n:Nat)(K:KR):Nat->mV->J->Prop|0,B,m=>vr (gj m a kdx) n K λZ=>K (.ok (.lst B) m)|r+1,B,m=>vr (gj m a kdx) n K λl=>Bf l[n-(r+1)]? K λv=>cond (.val v::fr) m (Bg (λm=>b (.val v::fr) m (ud (λu m=>j9 cond b fr a kdx n K r (B++[u]) m) K)) (λm=>j9 cond b fr a kdx n K r B m) K)
theorem aj5{cond a:Env->KK} (h:vr (gj m b kdx) n K λl=>Bf l[n-(r+1)]? K λv=>cond (.val v::fr) m (Bg (λm=>a (.val v::fr) m (ud (λu m=>j9 cond a fr b kdx n K r (acc++[u]) m) K)) (λm=>j9 cond a fr b kdx n K r acc m) K)):j9 cond a fr b kdx n K (r+1) acc m:=h
def Gp{α:Type}(o:Option α):Option α:=cond (dP True) o ag
def KS(n:Nat):Nat:=cond (dP True) n 0
noncomputable def yc(o:Option mV)(K:KR)(f:mV->Prop):Prop:=match Gp o with|some l=>f l|none=>K .H
noncomputable def amm(cond a:Env->KK)(fr:Env)(K:KR)(v:V)(m:J):Prop:=pq fr λfr=>yc (td m v) K λl=>j9 cond a fr v (d9 m v) l.length K l.length [] m
section
variable(ok:Nm->Nm->Bool)(bV:Nm->mV->J->KR->Prop)
mutual
noncomputable def kE(c:E)(e:Env)(m:J)(K:KR):Prop:=match c with|.bU v=>K (.ok v m)|.dB x=>K (.ok (.fn x) m)|.ba k=>oK (Sl.get e k) m K|.tup l=>we l e m (dj anD K)|.lst l=>we l e m (dj anE K)|.kj l=>we l e m (dj al9 K)|.aA l=>Gq l e m (dj anF K)|.fq l=>Gq l e m (dj ama K)|.vA=>K (.ok (.ref m.length)<|m++[.bW []])|.attr a x=>kE a e m (dj (amb ok x) K)|.sub a i=>kE a e m (dj (anG<|kE i e) K)|.eY a lo O=>kE a e m (dj (anH (kO lo e)<|kO O e) K)|.call f l=>kE f e m (dj (amf bV<|we l e) K)|.bi b l=>we l e m (dj (cBi b) K)|.hO a x=>kE a e m (dj (anI<|kE x e) K)|.qr a x=>kE a e m (dj (anJ<|kE x e) K)|.bin o a b=>kE a e m (dj (anK o<|kE b e) K)|.cmp o a b=>kE a e m (dj (anL o<|kE b e) K)|.and l=>BE l e m K|.or l=>Ca l e m K|.not a=>kE a e m (dj Vb K)|.neg a=>kE a e m (dj Vc K)|.ite t a b=>kE t e m (dj (Ve (kE a e)<|kE b e) K)|.comp B P cond M=>B9 (M.all λk=>decide<|k<e.length) (kE P e) m K (dj (amm (kC cond) (kE B) (M.map λk=>(e[k]?).getD .un)) K)|.H=>K .H
noncomputable def we(l:List E)(e:Env)(m:J)(L:R mV->Prop):Prop:=match l with|[]=>L (.ok [] m)|a::r=>kE a e m<|dj (amj<|we r e) L
noncomputable def Gq(l:List (E×E))(e:Env)(m:J)(L:R (List<|V×V)->Prop):Prop:=match l with|[]=>L (.ok [] m)|(a,b)::r=>kE a e m<|dj (amk (kE b e)<|Gq r e) L
noncomputable def kO(o:Option E)(e:Env)(m:J)(L:R La->Prop):Prop:=match o with|none=>L (.ok ag m)|some a=>kE a e m<|dj aml L
noncomputable def kC(o:Option E)(e:Env)(m:J)(K:KR):Prop:=match o with|none=>K (.ok (.bool ae) m)|some a=>kE a e m K
noncomputable def BE(l:List E)(e:Env)(m:J)(K:KR):Prop:=match l with|[]=>K .H|[a]=>kE a e m (dj Ka K)|a::r=>kE a e m<|dj (Vf<|BE r e) K
noncomputable def Ca(l:List E)(e:Env)(m:J)(K:KR):Prop:=match l with|[]=>K .H|[a]=>kE a e m (dj Ka K)|a::r=>kE a e m<|dj (Wj<|Ca r e) K
end
noncomputable abbrev KE:=R Env->Prop
noncomputable def eK(o:Option J)(e:Env)(K:KE):Prop:=match o with|some m=>K (.ok e m)|none=>K .H
noncomputable def aj6(x:Nm)(e:Env)(v:V)(K:KE)(u:V)(m:J):Prop:=eK (DQ ok m u x v) e K
noncomputable def aj7(e:Env)(v u:V)(K:KE)(j:V)(m:J):Prop:=eK (uS m u j v) e K
noncomputable def amn(a:KK)(e:Env)(v:V)(K:KE)(u:V)(m:J):Prop:=a m<|dj (aj7 e v u) K
noncomputable def aj8(e:Env)(v u:V)(lo:La)(K:KE)(hi:La)(m:J):Prop:=eK (cond (dP True) (qg m u lo hi v) ag) e K
noncomputable def aj9(a:J->(R La->Prop)->Prop)(e:Env)(v u:V)(K:KE)(lo:La)(m:J):Prop:=a m<|dj (aj8 e v u lo) K
noncomputable def amo(a b:J->(R La->Prop)->Prop)(e:Env)(v:V)(K:KE)(u:V)(m:J):Prop:=a m<|dj (aj9 b e v u) K
noncomputable def Kb(e:Env)(k:Nat)(v:V)(m:J)(K:KE):Prop:=if k<e.length then pq (e.set k<|.val v) λe=>K (.ok e m) else K .H
noncomputable def Vg(o:Option mV)(n:Nat)(K:KE)(f:mV->Prop):Prop:=match o with|some B=>if B.length=n then f B else K .H|none=>K .H
noncomputable def Mp(next:Env->J->KE->Prop)(K:KE)(r:R Env):Prop:=match r with|.ok e m=>next e m K|_=>K .H
mutual
noncomputable def kT(t:T)(e:Env)(v:V)(m:J)(K:KE):Prop:=match t with|.nm k=>Kb e k v m K|.attr o x=>kE ok bV o e m (dj (aj6 ok x e v) K)|.sub o i=>kE ok bV o e m (dj (amn (kE ok bV i e) e v) K)|.eY o lo E=>kE ok bV o e m (dj (amo (kO ok bV lo e) (kO ok bV E e) e v) K)|.tup B=>Vg (UJ v) B.length K λM=>Gr B e M m K
noncomputable def Gr(l:List T)(e:Env)(vs:mV)(m:J)(K:KE):Prop:=match l with|[]=>K (.ok e m)|t::B=>match vs with|v::vs=>kT t e v m (Mp (λe m K=>Gr B e vs m K) K)|[]=>K .H
end
noncomputable def wg(o:Option mV)(n:Nat)(K:KF)(f:mV->Prop):Prop:=match o with|some l=>if l.length=n then f l else K .H|none=>K .H
noncomputable def Cb(o:La)(K:KF)(f:V->Prop):Prop:=match o with|some v=>f v|none=>K .H
noncomputable def uv(K:KF)(f:Env->J->Prop)(r:R Env):Prop:=match r with|.ok e m=>f e m|_=>K .H
noncomputable def uw(K:KF)(f:Env->J->Prop)(x:Fl):Prop:=match x with|.nx e m=>f e m|.br e m=>K (.nx e m)|x=>K x
noncomputable def kFor(aQ:Env->V->J->KE->Prop)(body:Env->J->KF->Prop)(a:V)(kdx:Bool)(n:Nat)(K:KF):Nat->Env->J->Prop|0,e,m=>wg (gj m a kdx) n K λZ=>K (.nx e m)|r+1,e,m=>wg (gj m a kdx) n K λl=>Cb l[n-(r+1)]? K λv=>aQ e v m (uv K λe m=>body e m (uw K λe m=>kFor aQ body a kdx n K r e m))
noncomputable def Mq(K:KF)(f:Env->J->Prop)(x:Fl):Prop:=match x with|.nx e m=>f e m|.br e m=>K (.nx e m)|.rt v m=>K (.rt v m)|_=>K .H
noncomputable def Wk(e:Env)(K:KF)(f:J->Prop)(r:R V):Prop:=match r with|.ok (.bool ae) m=>f m|.ok (.bool aq) m=>K (.nx e m)|_=>K .H
noncomputable def vb(test:Env->KK)(body:Env->J->KF->Prop)(K:KF):Nat->Env->J->Prop|0,_,_=>K .H|r+1,e,m=>test e m (Wk e K λm=>body e m (Mq K λe m=>vb test body K r e m))
noncomputable def pA(e:Env)(F:KF->V->J->Prop)(K:KF)(r:R V):Prop:=match r with|.ok v m=>F K v m|.exc y m=>K (.ex y e m)|.H=>K .H
noncomputable def Ti(e:Env)(K:KF)(v:V)(m:J):Prop:=match v with|.none=>K (.nx e m)|_=>K .H
noncomputable def Vh(e:Env)(K:KF)(r:R Env):Prop:=match r with|.ok e m=>K (.nx e m)|.exc y m=>K (.ex y e m)|.H=>K .H
noncomputable def amq(t:T)(e:Env)(K:KF)(v:V)(m:J):Prop:=kT ok bV t e v m<|Vh e K
noncomputable def KU(o:La)(e:Env)(k:Nat)(m:J)(K:KF):Prop:=match o with|some r=>if k<e.length then pq (e.set k<|.val r) λe=>K (.nx e m) else K .H|none=>K .H
noncomputable def aka(k:Nat)(a:V)(e:Env)(K:KF)(v:V)(m:J):Prop:=KU (t5 a v) e k m K
noncomputable def vt(o:La)(K:KF)(f:V->Prop):Prop:=match o with|some B=>f B|none=>K .H
noncomputable def Et(o:Option J)(e:Env)(K:KF):Prop:=match o with|some m=>K (.nx e m)|none=>K .H
noncomputable def ag2(u:V)(x:Nm)(a:V)(e:Env)(K:KF)(v:V)(m:J):Prop:=vt (t5 a v) K λr=>Et (DQ ok m u x r) e K
noncomputable def akb(x:Nm)(a:KK)(e:Env)(K:KF)(u:V)(m:J):Prop:=vt (E1 ok m u x) K λB=>a m<|pA e (ag2 ok u x B e) K
noncomputable def Vi(a b:Env->J->KF->Prop)(e:Env)(K:KF)(v:V)(m:J):Prop:=match v with|.bool ae=>a e m K|.bool aq=>b e m K|_=>K .H
noncomputable def BG(o:Option mV)(K:KF)(f:mV->Prop):Prop:=match Gp o with|some l=>f l|none=>K .H
noncomputable def amr(t:T)(body:Env->J->KF->Prop)(e:Env)(K:KF)(v:V)(m:J):Prop:=BG (ei m v) K λl=>kFor (kT ok bV t) body v (d9 m v) l.length K l.length e m
noncomputable def ams(K:KF)(v:V)(m:J):Prop:=K<|.rt v m
noncomputable def RS(e:Env)(K:KF)(v:V)(m:J):Prop:=match v with|.str x=>K (.ex x e m)|_=>K .H
noncomputable def Vj(a b:Nat)(K:KF)(x:Fl):Prop:=match x with|.ex why e m=>if a<e.length/\b<e.length then pq ((e.set b<|.val<|.tup [rJ,.str why]).set a .un) λe=>K (.nx e m) else K .H|x=>K x
noncomputable def FJ(rest:Env->J->KF->Prop)(K:KF)(x:Fl):Prop:=match x with|.nx e m=>rest e m K|x=>K x
mutual
noncomputable def kS(s:S)(e:Env)(m:J)(K:KF):Prop:=match s with|.expr a=>kE ok bV a e m (pA e (Ti e) K)|.aQ t a=>kE ok bV a e m (pA e (amq ok bV t e) K)|.tX k a=>vt (Sl.get e k) K λB=>kE ok bV a e m (pA e (aka k B e) K)|.tY a x b=>kE ok bV a e m (pA e (akb ok x (kE ok bV b e) e) K)|.ifs t a b=>kE ok bV t e m (pA e (Vi (kB a) (kB b) e) K)|.dN t a b=>kE ok bV a e m (pA e (amr ok bV t (kB b) e) K)|.uY t b=>vb (kE ok bV t) (kB b) K (KS 1000) e m|.ret ag=>K (.rt .none m)|.ret (aa a)=>kE ok bV a e m (pA e ams K)|.brk=>K (.br e m)|.pass=>K (.nx e m)|.raise a=>kE ok bV a e m (pA e (RS e) K)|.tZ b E M=>kB b e m (Vj E M K)|.H=>K .H
noncomputable def kB(l:List S)(e:Env)(m:J)(K:KF):Prop:=match l with|[]=>K (.nx e m)|s::r=>kS s e m<|FJ (kB r) K
end
noncomputable def qy(K:KR)(x:Fl):Prop:=match x with|.nx _ m=>K (.ok .none m)|.rt v m=>K (.ok v m)|.ex y _ m=>K (.exc y m)|_=>K .H
noncomputable def FK(f:Fn)(l:mV)(m:J)(K:KR):Prop:=
 if l.length<=f.iU/\f.iU-l.length<=f.eD.length then
  pq ((l++f.eD.drop (f.eD.length-(f.iU-l.length))).map Sl.val++gQ f.locs .un) λe=>kB ok bV f.body e m<|qy K
 else K .H
end
noncomputable def Vk(x:Nm)(i:Nat)(K:KR)(r:R V):Prop:=match r with|.ok .none B=>K (.ok (.inst x i) B)|.exc y B=>K (.exc y B)|_=>K .H
noncomputable def Mr(ok:Nm->Nm->Bool)(a:Nm->mV->J->KR->Prop)(o:Option Gl)(x:Nm)(l:mV)(m:J)(K:KR):Prop:=match o with|some (.fn f)=>FK ok a f l m K|some (.cls f)=>FK ok a f (.inst x m.length::l) (m++[.aA []]) (Vk x m.length K)|none=>K .H
noncomputable def pickK(b:Bool)(p q:Prop):Prop:=match b with|true=>p|false=>q
noncomputable def kF(ok:Nm->Nm->Bool)(a:Nm->Option Gl)(b:Nm->Bool)(n:Nat)(x:Nm)(l:mV)(m:J)(K:KR):Prop:=match n with|0=>K .H|n+1=>pickK (b x) (hK (eW ok a (n+1) x l m) K)<|Mr ok (kF ok a b n) (a x) x l m K
section
variable{α β:Type}
theorem dk(r)(K)(h:∀v m,F K v m=K (g v m)):dj F K r=K (r.bind g):=R.casesOn (motive:=λr=>dj F K r=K (r.bind g)) r h (λZ Z=>rfl) rfl
theorem AV(l:List α):∀k,pq l k=k l:=List.rec (motive:=λl=>∀k,pq l k=k l) (λZ=>rfl) (λa Z h k=>h λr=>k (a::r)) l
theorem qh(p)[D:Decidable p]:dP p=decide p:=aw (λD=>@decide p D)<|Subsingleton.elim _ D
theorem Eu(o:Option α):Gp o=o:=aw (λb=>cond b o ag)<|qh True
end
section
variable{m:J}{K:KR}{G:KR->Prop}
theorem nr(o)(m)(K):oK o m K=K (R.of m o):=aO (motive:=λo=>oK o m K=K (R.of m o)) o rfl λZ=>rfl
theorem Kc(b):iK b m K=K (.ok (.bool b) m):=aS (motive:=λb=>iK b m K=K (.ok (.bool b) m)) b rfl rfl
theorem ag3(a b):U9 a b=EP a b:=by induction a using V.casesOn with|int a=>induction b using V.casesOn<;>rfl|_=>rfl
theorem ag4(a b):Va a b=ER a b:=by induction a using V.casesOn with|int a=>induction b using V.casesOn<;>rfl|_=>rfl
theorem akc(b)(l)(m)(K):Wi b l m K=K (qF b l m):=by induction b using BI.casesOn<;>first|exact nr _ _ _|(rcases l with _|⟨a,_|⟨b,_|⟨c,l⟩⟩⟩<;>first|rfl|exact nr _ _ _|exact(aw (oK · m K)<|ag3 _ _).trans (nr _ _ _)|exact(aw (oK · m K)<|ag4 _ _).trans (nr _ _ _))
theorem amt(o)(K):sK o K=K (R.st o):=aO (motive:=λo=>sK o K=K (R.st o)) o rfl λZ=>rfl
theorem ag5{α:Type}(l:List α)(i):r7 l i=idx l i:=by induction i using Int.casesOn with|negSucc n=>exact(aB λh=>Int.not_le.mpr (Int.negSucc_lt_zero n) h.1).symm|ofNat n=>refine(?_:cond (pG 1000000 n) ag l[n]?=ite ((0:Int)<=n/\(n:Int)<1000000) l[n]? ag);induction q:pG 1000000 n using aS with|true=>exact(aB λh=>Nat.not_lt.mpr (qT q)<|Int.ofNat_lt.mp h.2).symm|false=>exact(aC ⟨gg n,Int.ofNat_lt.mpr (zk λh=>iI<|(Nat.ble_eq_true_of_le h).symm.trans q)⟩).symm
theorem ag6:@r7=@idx:=funext λZ=>funext λl=>funext λi=>ag5 l i
theorem ag7:ky=vB:=by unfold ky vB;rw[ag6]<;>rfl
theorem ag8(o)(a b):U7 o a b=iz o a b:=by induction a using V.casesOn with|int a=>induction b using V.casesOn<;>rfl|_=>rfl
theorem ael(x)(o):E0 x o=(rZ o).bind λl=>look x l.1:=by induction o using aO with|none=>rfl|some o=>induction o using O.casesOn<;>rfl
theorem QM{α:Type}{x y a:α}(h:y=a):cond b y x=ite (b=ae) a x:=by subst h;induction b using aS<;>rfl
theorem QN(ok)(m)(v)(x):E1 ok m v x=xV ok m v x:=by induction v using V.casesOn with|inst c i=>exact QM (ael x _)|_=>rfl
theorem aem(m)(i)(x)(v)(o):E2 m i x v o=(rZ o).bind λl=>if l.1.length<100000 then aa (m.set i<|.aA<|putD x v l.1) else ag:=by induction o using aO with|none=>rfl|some o=>induction o using O.casesOn<;>rfl
theorem OD(ok)(m)(o)(x)(v):DQ ok m o x v=setAttr ok m o x v:=by induction o using V.casesOn with|inst c i=>exact QM (aem m i x v _)|_=>rfl
theorem acn(m)(j)(i v)(o):AU m j i v o=setAt m j i v o:=by induction o using aO with|none=>rfl|some o=>induction o using O.casesOn<;>first|rfl|(induction i using V.casesOn<;>rfl)
theorem aa1(m)(o i v):uS m o i v=Jl m o i v:=by induction o using V.casesOn with|ref j=>exact acn m j i v _|_=>rfl
theorem ag9(m)(v u):KP m v u=Fg m v u:=by
 induction v using V.casesOn with
 |ref i=>
  refine(?_:J8 m i u m[i]?=(t4 m[i]?).bind λl=>if l.1.length<100000 then aa (m.set i<|.lst<|l.1++[u]) else ag)
  induction m[i]? using aO with
  |none=>rfl
  |some o=>induction o using O.casesOn<;>rfl
 |_=>rfl
theorem RT(n):KS n=n:=aw (λb=>cond b n 0)<|qh True
theorem I7:mv=t6:=funext λm=>funext λa=>funext λlo=>funext λB=>aw (λb=>cond b (t6 m a lo B) ag)<|qh True
theorem akd(o)(y):B8 o y m K=K (.ok (.bool<|o.isSome==y) m):=by induction o using aO<;>induction y using aS<;>rfl
theorem amu(o)(y):nK o y m K=K (R.of m (o.map λb=>.bool<|b==y)):=by induction o using aO<;>rfl
theorem QO(m)(x)(v)(y)(K):FI (rv m v) x y m K=K (R.of m ((qn m (.str x) v).map λb=>V.bool<|b==y)):=by unfold qn;induction rv m v using V.casesOn with|aA l=>exact akd (look x l) y|tup l=>exact amu (yl (.str x) l) y|_=>rfl
theorem ake(m)(v u)(K):J9 v K u m=K (R.of m<|Br m v u):=by
 unfold J9 Br;induction rv m v using V.casesOn with
 |aA l=>
  induction u using V.casesOn with
  |str x=>exact aO (motive:=λo=>Mo o m K=K (.ok (o.getD .none) m)) (look x l) rfl λZ=>rfl
  |_=>rfl
 |_=>rfl
theorem D8(f:Int->Int->Bool)(hp:∀a b,dP (P a b)=f a b)(h:∀a b,fF m o (.int a) (.int b)=aa (.bool<|f a b))(v u):BD P o v u m K=oK (fF m o v u) m K:=by
 induction v using V.casesOn with
 |int a=>
  induction u using V.casesOn with
  |int b=>rw[h ..];exact(aw (iK · m K)<|hp a b).trans (Kc _)
  |_=>rfl
 |_=>rfl
theorem RU{S:Nm->Nm->Prop}[c:∀a b,Decidable<|S a b](f:Int->Int->Bool)(g:Nm->Nm->Bool)(hp:∀a b,dP (P a b)=f a b)(hs:∀a b,decide (S a b)=g a b)(h:∀a b,fF m o (.int a) (.int b)=aa (.bool<|f a b))(h':∀a b,fF m o (.str a) (.str b)=aa (.bool<|g a b))(v u:V):KQ P S o v u m K=oK (fF m o v u) m K:=by
 induction v using V.casesOn with
 |int a=>
  induction u using V.casesOn with
  |int b=>rw[h ..];exact(aw (iK · m K)<|hp a b).trans (Kc _)
  |_=>rfl
 |str a=>
  induction u using V.casesOn with
  |str b=>rw[h' ..];exact(aw (iK · m K)<|hs a b).trans (Kc _)
  |_=>rfl
 |_=>rfl
theorem Jt{α:Type}[BEq α][LawfulBEq α][DecidableEq α](a b:α):decide (a=b)=(a==b):=(Bool.eq_iff_iff.mpr<|decide_eq_true_iff.trans bO.symm)
theorem Tj{α:Type}[BEq α][LawfulBEq α][DecidableEq α](a b:α):decide (¬a=b)=!(a==b):=decide_not.trans<|aw not<|Jt a b
theorem aha(m:J)(o:CO)(v u)(K):U8 m o v u K=K (R.of m<|fF m o v u):=by
 refine Eq.trans ?_<|nr (fF m o v u) m K;induction o using CO.casesOn with
 |lt=>exact D8 _ (λZ Z=>qh _) (λZ Z=>rfl) v u
 |le=>exact D8 _ (λZ Z=>qh _) (λZ Z=>rfl) v u
 |gt=>exact D8 _ (λZ Z=>qh _) (λZ Z=>rfl) v u
 |ge=>exact D8 _ (λZ Z=>qh _) (λZ Z=>rfl) v u
 |eq=>exact RU (λa b=>a==b) (λa b=>a==b) (λZ Z=>(qh _).trans<|Jt _ _) Jt (λZ Z=>rfl) (λZ Z=>rfl) v u
 |ne=>exact RU (λa b=>!(a==b)) (λa b=>!(a==b)) (λZ Z=>(qh _).trans<|Tj _ _) Tj (λZ Z=>rfl) (λZ Z=>rfl) v u
 |mem=>
  induction v using V.casesOn with
  |str x=>exact(QO m x u ae K).trans ((nr _ m K).trans (aw (λf:Bool->V=>K<|R.of m<|(qn m (.str x) u).map f) (funext λb=>aw V.bool (by induction b using aS<;>rfl)))).symm
  |_=>rfl
 |lu=>
  induction v using V.casesOn with
  |str x=>exact(QO m x u aq K).trans ((nr _ m K).trans (aw (λf:Bool->V=>K<|R.of m<|(qn m (.str x) u).map f) (funext λb=>aw V.bool (by induction b using aS<;>rfl)))).symm
  |_=>rfl
 |_=>rfl
theorem QP(h:∀l,f l=K (g l)):vr o n K f=K (R.opt (o.bind λl=>if l.length=n then aa l else ag) g):=by
 induction o using aO with|none=>rfl|some l=>
  refine(?_:ite (l.length=n) (f l) (K .H)=K (R.opt (ite (l.length=n) (aa l) ag) g));by_cases q:l.length=n
  ·rw[aC q,aC q];exact h l
  ·rw[aB q,aB q];rfl
theorem aen(h:∀v,f v=K (g v)):Bf o K f=K (R.opt o g):=aO (motive:=λo=>Bf o K f=K (R.opt o g)) o rfl h
theorem ahb(h:∀v m,f v m=K (g v m)):ud f K r=K (R.nx r g):=R.casesOn (motive:=λr=>ud f K r=K (R.nx r g)) r h (λZ Z=>rfl) rfl
theorem aeo(h1:∀m,a m=K (d m))(h2:∀m,b m=K (e m)):Bg a b K r=K (R.nx r<|bR d e):=by
 induction r using R.casesOn with
 |ok v m=>
  induction v using V.casesOn with
  |bool c=>induction c using aS with
   |true=>exact h1 m
   |false=>exact h2 m
  |_=>rfl
 |_=>rfl
theorem aep{cond a:Env->J->R V}(h1:∀e m K,b e m K=K (cond e m))(h2:∀e m K,c e m K=K (a e m))(r):
  ∀(acc)(m),j9 b c fr d kdx n K r acc m=K (uZ cond a fr d kdx n r acc m):=by
 induction r with|zero=>exact λacc m=>QP λZ=>rfl|succ r B=>exact λacc m=>QP λZ=>aen λv=>(h1 _ _ _).trans (aeo (λm=>(h2 _ _ _).trans (ahb λZ Z=>B _ _)) λm=>B _ _)
end
section
variable{ok:Nm->Nm->Bool}{bV:Nm->mV->J->KR->Prop}{κ:i3}
noncomputable def PE(ok:Nm->Nm->Bool)(bV:Nm->mV->J->KR->Prop)(κ:i3)(c:E):Prop:=∀e m K,kE ok bV c e m K=K (bI ok κ e m c)
structure PEs(ok:Nm->Nm->Bool)(bV:Nm->List V->J->KR->Prop)(κ:i3)(c:List E):Prop where
 es:∀e m K,we ok bV c e m K=K (jH ok κ e m c)
 an:∀e m K,BE ok bV c e m K=K (A5 ok κ e m c)
 or:∀e m K,Ca ok bV c e m K=K (Bs ok κ e m c)
noncomputable def PPs(ok:Nm->Nm->Bool)(bV:Nm->mV->J->KR->Prop)(κ:i3)(c:List (E×E)):Prop:=∀e m K,Gq ok bV c e m K=K (gF ok κ e m c)
structure PO(ok:Nm->Nm->Bool)(bV:Nm->List V->J->KR->Prop)(κ:i3)(c:Option E):Prop where
 o:∀e m K,kO ok bV c e m K=K (nF ok κ e m c)
 c:∀e m K,kC ok bV c e m K=K (yF ok κ e m c)
structure PP(ok:Nm->Nm->Bool)(bV:Nm->List V->J->KR->Prop)(κ:i3)(c:E×E):Prop where
 a:PE ok bV κ c.1
 b:PE ok bV κ c.2
theorem QQ(v):Ka K v m=K (match v with|.bool b=>.ok (.bool b) m|_=>.H):=by induction v using V.casesOn<;>rfl
theorem ahc{K:KR}{r:J->R V}(h:∀m,a m K=K (r m))(v):Vf a K v m=K (match v with
  |.bool ae=>r m
  |.bool aq=>.ok (.bool aq) m
  |_=>.H):=by
 induction v using V.casesOn with
 |bool B=>induction B using aS with
  |true=>exact h m
  |false=>rfl
 |_=>rfl
theorem akf{K:KR}{r:J->R V}(h:∀m,a m K=K (r m))(v):Wj a K v m=K (match v with
  |.bool aq=>r m
  |.bool ae=>.ok (.bool ae) m
  |_=>.H):=by
 induction v using V.casesOn with
 |bool B=>induction B using aS with
  |true=>rfl
  |false=>exact h m
 |_=>rfl
theorem ahd{K:KR}{a b:J->R V}(h1:∀m,c m K=K (a m))(h2:∀m,d m K=K (b m))(v):Ve c d K v m=K (match v with
  |.bool ae=>a m
  |.bool aq=>b m
  |_=>.H):=by
 induction v using V.casesOn with
 |bool B=>induction B using aS with
  |true=>exact h1 m
  |false=>exact h2 m
 |_=>rfl
theorem amw(o)(m)(K):oD o m K=K (match o with|some l=>.ok (.aA<|eG [] l) m|none=>.H):=by induction o using aO<;>rfl
theorem amx(o)(m)(K):oM o m K=K (match o with|some l=>.ok (.ref m.length) (m++[.aA<|eG [] l])|none=>.H):=by induction o using aO<;>rfl
theorem Ju(h:k m a=K r):B9 b k m K a=K (match b with|true=>r|false=>.H):=by induction b using aS with|true=>exact h|false=>rfl
theorem ahe(v):Vb K v m=K (match v with|.bool b=>.ok (.bool !b) m|_=>.H):=by induction v using V.casesOn<;>rfl
theorem ahf(v):Vc K v m=K (match v with|.int i=>.ok (.int<|-i) m|_=>.H):=by induction v using V.casesOn<;>rfl
theorem aeq(h:∀l,f l=K (g l)):yc o K f=K (R.opt o g):=by unfold yc;rw[Eu ..];induction o using aO with|none=>rfl|some l=>exact h l
theorem ke(d:∀x l m K,bV x l m K=K (κ x l m))(c:E):PE ok bV κ c:=
 E.rec (motive_1:=PE ok bV κ) (motive_2:=PEs ok bV κ) (motive_3:=PPs ok bV κ) (motive_4:=PO ok bV κ) (motive_5:=PP ok bV κ)
 (λv e m K=>rfl)
 (λx e m K=>rfl)
 (λk e m K=>nr _ _ _)
 (λl h e m K=>(h.es e m _).trans (dk _ K λZ Z=>rfl))
 (λl h e m K=>(h.es e m _).trans (dk _ K λZ Z=>rfl))
 (λl h e m K=>(h.es e m _).trans (dk _ K λZ Z=>rfl))
 (λl h e m K=>(h e m _).trans (dk _ K λS Z=>amw _ _ _))
 (λl h e m K=>(h e m _).trans (dk _ K λS Z=>amx _ _ _))
 (λe m K=>rfl)
 (λa x h e m K=>(h e m _).trans (dk _ K λv m=>(aw (oK · m K)<|QN ok m v x).trans<|nr _ _ _))
 (λa i h M e m K=>(h e m _).trans (dk _ K λv m=>(M e m _).trans (dk _ K λj m=>(aw (λf:J->V->V->La=>oK (f m v j) m K) ag7).trans<|nr (vB m v j) m K)))
 (λa lo M h P T e m K=>(h e m _).trans (dk _ K λv m=>(P.o e m _).trans (dk _ K λlo m=>(T.o e m _).trans (dk _ K λM m=>(aw (λf:J->V->La->La->La=>oK (f m v lo M) m K) I7).trans<|nr (t6 m v lo M) m K))))
 (λf l h P e m K=>(h e m _).trans (dk _ K λg m=>by induction g using V.casesOn with|fn x=>exact(P.es e m _).trans (dk _ K λZ Z=>d _ _ _ _)|_=>rfl))
 (λb l h e m K=>(h.es e m _).trans (dk _ K λZ Z=>akc _ _ _ _))
 (λa x h R e m K=>(h e m _).trans (dk _ K λv m=>Ju ((R e m _).trans (dk _ K λu m=>(aw (sK · K)<|ag9 m v u).trans<|amt _ _))))
 (λa x h R e m K=>(h e m _).trans (dk _ K λv m=>Ju ((R e m _).trans (dk _ K λu m=>ake m v u K))))
 (λo a b h O e m K=>(h e m _).trans (dk _ K λv m=>(O e m _).trans (dk _ K λu m=>(aw (oK · m K)<|ag8 o (rv m v)<|rv m u).trans<|nr _ _ _)))
 (λo a b h O e m K=>(h e m _).trans (dk _ K λZ m=>(O e m _).trans (dk _ K λZ Z=>aha _ _ _ _ _)))
 (λl h=>h.an)
 (λl h=>h.or)
 (λa h e m K=>(h e m _).trans (dk _ K λv Z=>ahe v))
 (λa h e m K=>(h e m _).trans (dk _ K λv Z=>ahf v))
 (λt a b Y n O e m K=>(Y e m _).trans (dk _ K λv m=>ahd (λm=>n e m K) (λm=>O e m K) v))
 (λq A c C s M w e m K=>Ju ((M e m _).trans (dk _ K λv m=>(AV _ _).trans (aeq λl=>aep w.c s _ _ _))))
 (λe m K=>rfl)
 ⟨λe m K=>rfl,λe m K=>rfl,λe m K=>rfl⟩
 (λa r h B=>⟨λe m K=>(h e m _).trans (dk _ K λZ m=>(B.es e m _).trans (dk _ K λZ Z=>rfl)),
  dz (motive:=λr=>(∀e m K,BE ok bV r e m K=K (A5 ok κ e m r))->∀e m K,BE ok bV (a::r) e m K=K (A5 ok κ e m (a::r))) r (λZ e m K=>(h e m _).trans (dk _ K λv Z=>QQ v)) (λb r B e m K=>(h e m _).trans (dk _ K λv Z=>ahc (λm=>B e m K) v)) B.an,
  dz (motive:=λr=>(∀e m K,Ca ok bV r e m K=K (Bs ok κ e m r))->∀e m K,Ca ok bV (a::r) e m K=K (Bs ok κ e m (a::r))) r (λZ e m K=>(h e m _).trans (dk _ K λv Z=>QQ v)) (λb r B e m K=>(h e m _).trans (dk _ K λv Z=>akf (λm=>B e m K) v)) B.or⟩)
 (λe m K=>rfl)
 (λp r h B e m K=>(h.a e m _).trans (dk _ K λZ m=>(h.b e m _).trans (dk _ K λZ m=>(B e m _).trans (dk _ K λZ Z=>rfl))))
 ⟨λe m K=>rfl,λe m K=>rfl⟩
 (λa h=>⟨λe m K=>(h e m _).trans (dk _ K λZ Z=>rfl),λe m K=>h e m K⟩)
 (λa b y z=>⟨y,z⟩) c
theorem Ul(b:∀x l m K,bV x l m K=K (κ x l m)):∀(c),∀e m K,kO ok bV c e m K=K (nF ok κ e m c):=λc=>aO (motive:=λc=>∀e m K,kO ok bV c e m K=K (nF ok κ e m c)) c (λe m K=>rfl) λa e m K=>(ke b a e m _).trans (dk _ K λZ Z=>rfl)
theorem Kd(o)(e)(K):eK o e K=K (R.opt o λm=>.ok e m):=aO (motive:=λo=>eK o e K=K (R.opt o λm=>.ok e m)) o rfl λZ=>rfl
theorem aer:Kb e k v m K=K (if k<e.length then .ok (e.set k<|.val v) m else .H):=by
 unfold Kb;by_cases q:k<e.length
 ·rw[aC q,aC q];exact AV _ _
 ·rw[aB q,aB q]
theorem ahg{n:Nat}{g:mV->R Env}(h:∀l,f l=K (g l)):Vg o n K f=K (R.opt o λvs=>if vs.length=n then g vs else .H):=by
 induction o using aO with|none=>rfl|some l=>
  refine(?_:ite (l.length=n) (f l) (K .H)=K (ite (l.length=n) (g l) .H));by_cases q:l.length=n
  ·rw[aC q,aC q];exact h l
  ·rw[aB q,aB q]
theorem akg(h:∀e m,f e m K=K (g e m)):Mp f K r=K (R.nx r g):=R.casesOn (motive:=λr=>Mp f K r=K (R.nx r g)) r h (λZ Z=>rfl) rfl
theorem Um(a:∀x l m K,bV x l m K=K (κ x l m))(t):∀e v m K,kT ok bV t e v m K=K (mm ok κ e m v t):=
 T.rec (motive_1:=λt=>∀e v m K,kT ok bV t e v m K=K (mm ok κ e m v t)) (motive_2:=λt=>∀e B m K,Gr ok bV t e B m K=K (xW ok κ e m B t))
 (λk e v m K=>aer)
 (λo x e v m K=>(ke a o e m _).trans (dk _ K λu m=>(aw (eK · e K)<|OD ok m u x v).trans<|Kd _ _ _))
 (λo i e v m K=>(ke a o e m _).trans (dk _ K λu m=>(ke a i e m _).trans (dk _ K λj m=>(aw (eK · e K)<|aa1 m u j v).trans<|Kd _ _ _)))
 (λo lo E e v m K=>(ke a o e m _).trans (dk _ K λu m=>(Ul a lo e m _).trans (dk _ K λlo m=>(Ul a E e m _).trans (dk _ K λE m=>(aw (λb=>eK (cond b (qg m u lo E v) ag) e K)<|qh True).trans<|Kd _ _ _))))
 (λJ h e v m K=>ahg λB=>h e B m K)
 (λe B m K=>rfl)
 (λt J h M e B m K=>dz (motive:=λB=>Gr ok bV (t::J) e B m K=K (xW ok κ e m B (t::J))) B rfl λv B=>(h e v m _).trans (akg λe m=>M e B m K)) t
section
variable{K:KF}
theorem Tn(h:∀l,f l=K (g l)):wg o n K f=K (Fl.opt (o.bind λl=>if l.length=n then aa l else ag) g):=by
 induction o using aO with|none=>rfl|some l=>
  refine(?_:ite (l.length=n) (f l) (K .H)=K (Fl.opt (ite (l.length=n) (aa l) ag) g));by_cases q:l.length=n
  ·rw[aC q,aC q];exact h l
  ·rw[aB q,aB q];rfl
theorem akh(h:∀v,f v=K (g v)):Cb o K f=K (Fl.opt o g):=aO (motive:=λo=>Cb o K f=K (Fl.opt o g)) o rfl h
theorem aki(h:∀v m,f v m=K (g v m)):uv K f r=K (Fl.yG r g):=R.casesOn (motive:=λr=>uv K f r=K (Fl.yG r g)) r h (λZ Z=>rfl) rfl
theorem akj(h:∀v m,f v m=K (g v m)):uw K f r=K (Fl.turn r g):=Fl.casesOn (motive:=λr=>uw K f r=K (Fl.turn r g)) r h (λZ Z=>rfl) (λZ Z=>rfl) (λZ Z Z=>rfl) rfl
theorem akk(h:∀v m,f v m=K (g v m)):Mq K f r=K (Fl.vn r g):=Fl.casesOn (motive:=λr=>Mq K f r=K (Fl.vn r g)) r h (λZ Z=>rfl) (λZ Z=>rfl) (λZ Z Z=>rfl) rfl
theorem akl(h:∀m,f m=K (g m)):Wk e K f r=K (Fl.yG r (bF g λm=>.nx e m)):=by
 induction r using R.casesOn with
 |ok v m=>
  induction v using V.casesOn with
  |bool c=>induction c using aS with
   |true=>exact h m
   |false=>rfl
  |_=>rfl
 |_=>rfl
theorem ahh(h1:∀e v m K,a e v m K=K (aQ e m v))(h2:∀e m K,c e m K=K (body e m))(r):
  ∀(e)(m),kFor a c b kdx n K r e m=K (ES aQ body b kdx n r e m):=by
 induction r with|zero=>exact λe m=>Tn λZ=>rfl|succ r B=>exact λe m=>Tn λZ=>akh λv=>(h1 _ _ _ _).trans (aki λe m=>(h2 _ _ _).trans<|akj B)
theorem aco(h1:∀e m K,a e m K=K (test e m))(h2:∀e m K,b e m K=K (body e m))(r):
  ∀(e)(m),vb a b K r e m=K (D4 test body r e m):=by
 induction r with|zero=>exact λe m=>rfl|succ r B=>exact λe m=>(h1 _ _ _).trans (akl λm=>(h2 _ _ _).trans<|akk B)
theorem rK(e)(r)(K)(h:∀v m,F K v m=K (g v m)):pA e F K r=K (ef e r g):=R.casesOn (motive:=λr=>pA e F K r=K (ef e r g)) r h (λZ Z=>rfl) rfl
theorem ahi(r):Vh e K r=K (ef e r λe m=>.nx e m):=by induction r using R.casesOn<;>rfl
theorem Iz(h:∀v,f v=K (g v)):vt o K f=K (Fl.opt o g):=aO (motive:=λo=>vt o K f=K (Fl.opt o g)) o rfl h
theorem ahj(o:La):KU o e k m K=K (Fl.opt o λr=>if k<e.length then .nx (e.set k<|.val r) m else .H):=by
 induction o using aO with|none=>rfl|some r=>
  refine(?_:ite (k<e.length) (pq (e.set k<|.val r) λe=>K<|.nx e m) (K .H)=K (ite (k<e.length) (.nx (e.set k<|.val r) m) .H));by_cases q:k<e.length
  ·rw[aC q,aC q];exact AV _ _
  ·rw[aB q,aB q]
theorem acp(o):Et o e K=K (Fl.opt o λm=>.nx e m):=by induction o using aO<;>rfl
theorem acq(v):Ti e K v m=K (Fl.opt v.rO λZ=>.nx e m):=by induction v using V.casesOn<;>rfl
theorem aa2(v):RS e K v m=K (Fl.opt v.oJ λx=>.ex x.1 e m):=by induction v using V.casesOn<;>rfl
theorem ahk(h1:∀m,c e m K=K (a m))(h2:∀m,d e m K=K (b m))(v):Vi c d e K v m=K (bF a b v m):=by
 induction v using V.casesOn with
 |bool B=>induction B using aS with
  |true=>exact h1 m
  |false=>exact h2 m
 |_=>rfl
theorem ahl(h:∀v,f v=K (g v)):BG o K f=K (Fl.opt o g):=by unfold BG;rw[Eu ..];induction o using aO with|none=>rfl|some l=>exact h l
theorem ahm(h:∀e m,rest e m K=K (g e m))(x):FJ rest K x=K (Fl.seq x g):=Fl.casesOn (motive:=λr=>FJ rest K r=K (Fl.seq r g)) x h (λZ Z=>rfl) (λZ Z=>rfl) (λZ Z Z=>rfl) rfl
theorem ahn(x:Fl):Vj a b K x=K (match x with
  |.ex why e m=>if a<e.length/\b<e.length then .nx ((e.set b<|.val<|.tup [rJ,.str why]).set a .un) m else .H
  |x=>x):=by
 induction x using Fl.casesOn with
 |ex why e m=>
  refine(?_:ite (a<e.length/\b<e.length) (pq ((e.set b<|.val<|.tup [rJ,.str why]).set a .un) λe=>K<|.nx e m) (K .H)=K (ite (a<e.length/\b<e.length) (.nx ((e.set b<|.val<|.tup [rJ,.str why]).set a .un) m) .H));by_cases q:a<e.length/\b<e.length
  ·rw[aC q,aC q];exact AV _ _
  ·rw[aB q,aB q]
 |_=>rfl
end
noncomputable def PS(ok:Nm->Nm->Bool)(bV:Nm->mV->J->KR->Prop)(κ:i3)(c:S):Prop:=∀e m K,kS ok bV c e m K=K (sf ok κ e m c)
noncomputable def PB(ok:Nm->Nm->Bool)(bV:Nm->mV->J->KR->Prop)(κ:i3)(c:List S):Prop:=∀e m K,kB ok bV c e m K=K (eC ok κ e m c)
theorem rU(d:∀x l m K,bV x l m K=K (κ x l m))(c):PB ok bV κ c:=
 S.rec_1 (motive_1:=PS ok bV κ) (motive_2:=PB ok bV κ)
 (λa e m K=>(ke d a e m _).trans (rK e _ K λv Z=>acq v))
 (λt a e m K=>(ke d a e m _).trans (rK e _ K λv m=>(Um d t e v m _).trans<|ahi _))
 (λk a e m K=>Iz λB=>(ke d a e m _).trans (rK e _ K λv m=>ahj _))
 (λa x b e m K=>(ke d a e m _).trans (rK e _ K λu m=>(aw (vt · K _)<|QN ok m u x).trans (Iz λB=>(ke d b e m _).trans (rK e _ K λv E=>Iz λr=>(aw (Et · e K)<|OD ok E u x r).trans<|acp _))))
 (λt a b J M e m K=>(ke d t e m _).trans (rK e _ K λv m=>ahk (λm=>J e m K) (λm=>M e m K) v))
 (λt a b h e m K=>(ke d a e m _).trans (rK e _ K λv m=>ahl λl=>ahh (Um d t) h _ _ _))
 (λt b h e m K=>(aw (λn=>vb (kE ok bV t) (kB ok bV b) K n e m)<|RT 1000).trans<|aco (ke d t) h _ _ _)
 (λo=>aO (motive:=λo=>PS ok bV κ<|.ret o) o (λe m K=>rfl) λa e m K=>(ke d a e m _).trans (rK e _ K λZ Z=>rfl))
 (λe m K=>rfl)
 (λe m K=>rfl)
 (λa e m K=>(ke d a e m _).trans (rK e _ K λv Z=>aa2 v))
 (λb P R h e m K=>(h e m _).trans<|ahn _)
 (λe m K=>rfl)
 (λe m K=>rfl)
 (λs r h O e m K=>(h e m _).trans (ahm (λe m=>O e m K) _)) c
theorem RV(a:∀x l m K,bV x l m K=K (κ x l m))(f:Fn)(l:mV)(m)(K):FK ok bV f l m K=K (hH ok κ f l m):=by
 unfold FK hH;by_cases q:l.length<=f.iU/\f.iU-l.length<=f.eD.length
 ·rw[aC q,aC q,AV ..];refine(rU a _ _ _ _).trans ?_;induction eC ok κ _ m f.body using Fl.casesOn<;>rfl
 ·rw[aB q,aB q]
end
theorem rV(ok)(a)(b)(n):∀(x)(l)(m)(K),kF ok a b n x l m K=K (eW ok a n x l m):=by
 induction n with
 |zero=>exact λx l m K=>rfl
 |succ n E=>
  intro x l m K;refine(?_:pickK (b x) (hK (eW ok a (n+1) x l m) K) (Mr ok (kF ok a b n) (a x) x l m K)=_);induction b x using aS with
  |true=>exact propext ⟨λh=>h _ rfl,λk J e=>rws e k⟩
  |false=>
   refine(?_:Mr ok (kF ok a b n) (a x) x l m K=K (match a x with
    |some (.fn f)=>hH ok (eW ok a n) f l m
    |some (.cls f)=>match hH ok (eW ok a n) f (.inst x m.length::l) (m++[.aA []]) with
     |.ok .none B=>.ok (.inst x m.length) B
     |.exc y B=>.exc y B
     |_=>.H
    |none=>.H))
   induction a x using aO with
   |none=>rfl
   |some g=>
    induction g using Gl.casesOn with
    |fn f=>exact RV E f l m K
    |cls f=>
     refine(RV E f _ _ _).trans ?_;show Vk x m.length K _=K (match hH ok (eW ok a n) f (.inst x m.length::l) (m++[.aA []]) with
     |.ok .none B=>.ok (.inst x m.length) B
     |.exc y B=>.exc y B
     |_=>.H)
     induction hH ok (eW ok a n) f (.inst x m.length::l) (m++[.aA []]) using R.casesOn with
     |ok v B=>induction v using V.casesOn<;>rfl
     |_=>rfl
section
noncomputable abbrev ak(n:Nat):Nm:=@Nat.rec (λZ=>Nat->Nm) (λZ=>[]) (λZ B n=>cond (Nat.beq n 0) [] (Nat.mod n 256::B (Nat.div n 256))) 99 n
noncomputable abbrev Y(x:Nm):E:=.bU<|.str x
noncomputable abbrev B(i:Int):E:=.bU<|.int i
noncomputable abbrev bA:E:=.bU .none
noncomputable abbrev bP(x:Nm):E:=.attr (.ba 0) x
abbrev aK(a:E)(i:Int):E:=.sub a<|B i
noncomputable abbrev aP(f:Nm)(l:List E):E:=.call (.dB f) l
noncomputable abbrev bw(a b:E):E:=.bin .add a b
noncomputable abbrev aX(a b:E):E:=.cmp .eq a b
noncomputable abbrev cH(a b:E):E:=.bin .mod a b
abbrev mK(a i:E)(k:Int):E:=.sub a<|cH i<|B k
noncomputable abbrev aV(k:Nat)(e:E):S:=.aQ (.nm k) e
noncomputable abbrev bh(e:E):S:=.ret<|aa e
abbrev bB(t e:E):S:=.ifs t [bh e] []
noncomputable abbrev bY(t:E)(a:List S):S:=.ifs t a []
noncomputable abbrev gX(a b:E):E:=.cmp .lt a b
noncomputable abbrev kz(a b:E):E:=.cmp .gt a b
noncomputable abbrev ek(a b:E):E:=.cmp .ne a b
noncomputable abbrev iV(a b:E):E:=.cmp .mem a b
noncomputable abbrev eH(a b:E):E:=.cmp .is a b
noncomputable abbrev lE(a b:E):E:=.cmp .tM a b
noncomputable abbrev fV(a b:E):E:=.bin .sub a b
noncomputable abbrev gH(a b:E):E:=.bin .mul a b
noncomputable abbrev eP(a b:E):E:=.bin .fdiv a b
noncomputable abbrev mw(a b:E):E:=.bin .band a b
noncomputable abbrev qz(a b:E):E:=.bin .pow a b
noncomputable abbrev dH(a:E):E:=.bi .len [a]
open E renaming tup->qzT
noncomputable abbrev ax:E:=.ba 0
noncomputable abbrev aE:E:=.ba 1
noncomputable abbrev aN:E:=.ba 2
noncomputable abbrev aZ:E:=.ba 3
noncomputable abbrev be:E:=.ba 4
noncomputable abbrev ck:E:=.ba 5
noncomputable abbrev dU:E:=.ba 6
noncomputable abbrev gq:E:=.ba 7
noncomputable abbrev dg:E:=.ba 8
noncomputable abbrev gv:E:=.ba 9
noncomputable abbrev apT:T:=.nm 0
noncomputable abbrev anO:T:=.nm 1
noncomputable abbrev mx:T:=.nm 2
noncomputable abbrev iB:T:=.nm 3
noncomputable abbrev fH:T:=.nm 4
noncomputable abbrev iW:T:=.nm 5
noncomputable abbrev jJ:T:=.nm 6
noncomputable abbrev iC:T:=.nm 7
noncomputable abbrev oQ:T:=.nm 8
noncomputable abbrev BH:T:=.nm 9
def fnAt(x:Nm):Fn:=match BC x with
 |some (.fn f)=>f
 |_=>⟨0,[],0,[]⟩
abbrev zt:=ak 0x70756f72675f64616f6c796170
abbrev Wl:=ak 0x20
abbrev du:=ak 0x64616f6c796170
abbrev cb:=ak 0x676962
abbrev OE:=ak 0x73646c6569665f7069
abbrev kA:=ak 0x7069
abbrev fA:=ak 0x6b726f7774656e
abbrev PX:=ak 0x6e6f6973726576
abbrev cz:=ak 0x72656765746e69
abbrev aad:=ak 0x6874676e656c726468
abbrev xG:=ak 0x70637364
abbrev yd:=ak 0x6e6365
abbrev uO:=ak 0x6874676e656c
abbrev anP:=ak 0x6469
abbrev aa3:=ak 0x66666f2d67617266
abbrev amz:=ak 0x6c7474
abbrev xe:=ak 0x6c6f636f746f7270
abbrev sX:=ak 0x6f746f72705f74656e69
abbrev HC:=ak 0x6d75736b63656863
abbrev RW:=ak 0x7264646173
abbrev mY:=ak 0x726464615f34767069
abbrev RX:=ak 0x7264646164
abbrev Oh:=ak 0x73646c6569665f367069
abbrev lA:=ak 0x367069
abbrev aae:=ak 0x6c6562616c776f6c66
abbrev acr:=ak 0x7264687478656e
abbrev aa4:=ak 0x74696d696c706f68
abbrev mZ:=ak 0x726464615f36767069
abbrev Oi:=ak 0x73646c6569665f706374
abbrev iy:=ak 0x706374
abbrev iw:=ak 0x74726f70736e617274
abbrev RY:=ak 0x74726f7073
abbrev iP:=ak 0x656369767265735f74656e69
abbrev RZ:=ak 0x74726f7064
abbrev aa5:=ak 0x65636e6575716573
abbrev aes:=ak 0x7165736b6361
abbrev akm:=ak 0x66666f64
abbrev aa6:=ak 0x6465767265736572
abbrev aho:=ak 0x7367616c66
abbrev HD:=ak 0x67616c665f706374
abbrev aet:=ak 0x776f646e6977
abbrev aeu:=ak 0x727470677275
abbrev Oj:=ak 0x73646c6569665f706475
abbrev tP:=ak 0x706475
abbrev Oc:=ak 0x73646c6569665f6174656d
abbrev fS:=ak 0x74736f68
abbrev Ol:=ak 0x657079745f7265687465
abbrev H0:=ak 0x6f746f7270666e
abbrev Dv:=ak 0x6f746f72705f666e
abbrev H2:=ak 0x6f746f7270346c
abbrev fC:=ak 0x6b72616d
abbrev pX:=ak 0x797469726f697270
abbrev Bh:=ak 0x666969
abbrev C3:=ak 0x7865646e695f6563616669
abbrev Bi:=ak 0x66696f
abbrev zO:=ak 0x656d616e666969
abbrev DR:=ak 0x656d616e6669
abbrev zP:=ak 0x656d616e66696f
abbrev zQ:=ak 0x65707974666969
abbrev zR:=ak 0x6570797466696f
abbrev zS:=ak 0x65707974746b70
abbrev O8:=ak 0x657079745f746b70
abbrev ahp:=ak 0x206174656d
abbrev e8:=ak 0x6174656d
abbrev OF:=ak 0x73646c6569665f7463
abbrev k_state:=ak 0x6574617473
abbrev O9:=ak 0x65746174735f7463
abbrev uP:=ak 0x737574617473
abbrev OG:=ak 0x7375746174735f7463
abbrev Hu:=ak 0x6e6f69746365726964
abbrev QR:=ak 0x7269645f7463
abbrev vc:=ak 0x656e6f7a
abbrev Hn:=ak 0x6e6f6974617269707865
abbrev To:=ak 0x656d6974
abbrev PY:=ak 0x6f746f7270336c
abbrev zH:=ak 0x7264646173207069
abbrev IA:=ak 0x347264646173
abbrev zI:=ak 0x7264646164207069
abbrev IB:=ak 0x347264646164
abbrev zA:=ak 0x726464617320367069
abbrev IC:=ak 0x367264646173
abbrev zB:=ak 0x726464616420367069
abbrev ID:=ak 0x367264646164
abbrev Dj:=ak 0x6372732d6f746f7270
abbrev Dk:=ak 0x7473642d6f746f7270
abbrev Un:=ak 0x207463
abbrev fu:=ak 0x7463
noncomputable abbrev k_:Nm:=[]
abbrev n7:=ak 0x6c616e696769726f
abbrev nc:=ak 0x796c706572
abbrev Pf:=ak 0x666f5f736465656e
abbrev ahq:=ak 0x7265687465
abbrev anQ:=ak 0x6874
abbrev akn:=ak 0x6e616c76
abbrev YQ:=ak 0x65707974207265687465
abbrev amA:=ak 0x707261
abbrev N0:=ak 0x6c6f636f746f7270206174656d
abbrev jw:=ak 0x6f746f7270666e206174656d
abbrev i9:=ak 0x6f746f7270346c206174656d
abbrev vd:=ak 0x706d6369
abbrev Af:=ak 0x3676706d6369
abbrev Ys:=ak 0x27206c6f636f746f7270206e776f6e6b6e75
abbrev Uo:=ak 0x27
abbrev Od:=ak 0x64656d616e5f646c656966
abbrev Yz:=ak 0x2720646c656966206e776f6e6b6e75
abbrev OH:=ak 0x64656b726f775f7369
abbrev ve:=ak 0x6b73616d
abbrev yx:=ak 0x726f
abbrev E3:=ak 0x726f78
abbrev Kg:=ak 0x6c6873
abbrev Kh:=ak 0x726873
abbrev Oe:=ak 0x7265646e755f646c656966
abbrev ako:=ak 0x68736168
abbrev lr:=ak 0x646c656966
abbrev amB:=ak 0x206f6e
abbrev YH:=ak 0x203a6e776f2073746920666f20
abbrev PZ:=ak 0x666f5f657a6973
abbrev k_size:=ak 0x657a6973
abbrev Ph:=ak 0x666f5f7374726170
abbrev aev:=ak 0x7461636e6f63
abbrev n5:=ak 0x666f5f7265626d756e
abbrev ri:=ak 0x666f5f73746574636f
abbrev Yi:=ak 0x73746574636f207374692074696620746f6e2073656f64207265626d756e20656874
abbrev zT:=ak 0x666f5f73746962
abbrev DS:=ak 0x6465646c6f66
abbrev vf:=ak 0x646e656d
abbrev Yh:=ak 0x6874676e656c206e65766520656e6f20666f2073746574636f20726f66206465646e656d207369206d75732061
abbrev Aq:=ak 0x346b6f6f6c
abbrev Hv:=ak 0x657a69735f64616568
abbrev P0:=ak 0x74615f657a6973
abbrev HE:=ak 0x74615f6563616c70
abbrev D9:=ak 0x366b6f6f6c
abbrev Dw:=ak 0x6174656d5f77656e
abbrev Ew:=ak 0x6b6f6f6c
abbrev jK:=ak 0x346c
abbrev jE:=ak 0x66666f
abbrev uT:=ak 0x6563616c70
abbrev l7:=ak 0x646e696b
abbrev k_data:=ak 0x61746164
abbrev Dl:=ak 0x666f5f74656b636170
abbrev j4:=ak 0x74656b636150
abbrev zC:=ak 0x666f5f796c696d6166
abbrev DF:=ak 0x666f5f65736162
abbrev qj:=ak 0x6b6e696c
abbrev YR:=ak 0x657361622068637573206f6e
abbrev vg:=ak 0x74726170
abbrev Om:=ak 0x737469625f646c656966
abbrev sZ:=ak 0x747261705f747570
abbrev Yj:=ak 0x74656b6361702065687420666f2073746574636f2068637573206f6e
abbrev OI:=ak 0x6563616c705f6d7573
abbrev lW:=ak 0x6e6f6d6d6f63
abbrev s8:=ak 0x74656d5f736d7573
abbrev pY:=ak 0x666f5f7372696170
abbrev tf:=ak 0x74615f646e656d
abbrev wX:=ak 0x73746574636f5f746573
abbrev DG:=ak 0x7361685f786f62
abbrev zJ:=ak 0x656572745f6e7572
abbrev zx:=ak 0x73746e656d6574617473
abbrev tz:=ak 0x7372656f64
abbrev C0:=ak 0x20726f662072656f64206f6e
abbrev m5:=ak 0x65756e69746e6f63
abbrev uI:=ak 0x74656d5f736465656e
abbrev gh:=ak 0x666f5f65756c6176
abbrev Dx:=ak 0x666f5f6874646977
abbrev rp:=ak 0x73646c656966
abbrev H3:=ak 0x79625f64616572
abbrev uL:=ak 0x73726564616572
abbrev YC:=ak 0x20726f6620726564616572206f6e
abbrev DT:=ak 0x64656b73616d
abbrev NX:=ak 0x20646c656966206e776f6e6b6e75
abbrev jF:=ak 0x6d756e
abbrev rq:=ak 0x666f5f79656b
abbrev OJ:=ak 0x7465735f64656d616e
abbrev uU:=ak 0x646e756f66
abbrev amC:=ak 0x666572
abbrev HF:=ak 0x74686769725f6e69
abbrev Dy:=ak 0x64657261706d6f63
abbrev yy:=ak 0x3d3d
abbrev Ey:=ak 0x3d21
abbrev Bj:=ak 0x3c
abbrev Ez:=ak 0x3d3e
abbrev Bk:=ak 0x3e
abbrev EA:=ak 0x3d3c
abbrev ye:=ak 0x796e61
abbrev EB:=ak 0x656e6f6e
abbrev Za:=ak 0x20706f206e776f6e6b6e75
abbrev Oo:=ak 0x65756c61765f6174656d
abbrev iQ:=ak 0x74656b636170
abbrev Ho:=ak 0x65756c61765f65646973
abbrev Pj:=ak 0x65756c61765f7463
abbrev l8:=ak 0x6b6c6174
abbrev xf:=ak 0x796c7065725f7369
abbrev Ea:=ak 0x6c69746e75
abbrev tQ:=ak 0x776f6e
abbrev C1:=ak 0x64616f6c7961705f64616572
abbrev Dm:=ak 0x6174656d5f64616572
abbrev DH:=ak 0x74635f64616572
abbrev N6:=ak 0x737265646165725f65726f63
abbrev xg:=ak 0x686374616d5f6f64
abbrev gU:=ak 0x6b61657262
abbrev wY:=ak 0x746369647265765f6f64
abbrev xk:=ak 0x70616d765f6f64
abbrev Oq:=ak 0x7372656f645f65726f63
abbrev xw:=ak 0x686374616d
abbrev tg:=ak 0x74636964726576
abbrev xH:=ak 0x70616d76
abbrev N7:=ak 0x73646e6f6365735f74696e75
abbrev P4:=ak 0x666f5f74736f63
abbrev Hm:=ak 0x74696d696c5f79625f74656c
abbrev Ot:=ak 0x74656b6361705f74656c
abbrev th:=ak 0x7265746e756f43
abbrev zU:=ak 0x7374656b636170
abbrev g8:=ak 0x73746574636f
abbrev rF:=ak 0x61746f7551
abbrev vh:=ak 0x64657375
abbrev xl:=ak 0x7265766f5f7369
abbrev Hp:=ak 0x74696d696c5f656b616d
abbrev zD:=ak 0x6c6c65635f656b616d
abbrev lh:=ak 0x7265746e756f63
abbrev lY:=ak 0x61746f7571
abbrev As:=ak 0x74696d696c
abbrev zr:=ak 0x746e656d65746174735f6c6c6563
abbrev akp:=ak 0x65746172
abbrev akq:=ak 0x74696e75
abbrev ahr:=ak 0x7473727562
abbrev aaf:=ak 0x73746574636f5f7369
abbrev Dz:=ak 0x666f5f736c6c6563
abbrev QS:=ak 0x7465736e7964
abbrev P5:=ak 0x666f5f6b73616d
abbrev wV:=ak 0x6e6170735f786966657270
abbrev DU:=ak 0x79625f74656c
abbrev k9:=ak 0x726574656d5f6f64
abbrev k_cells:=ak 0x736c6c6563
abbrev Yk:=ak 0x746e656d6574617473206120726f66206c6c6563206f6e
abbrev zE:=ak 0x7463656a626f5f6f64
abbrev Og:=ak 0x7372656f645f726574656d
abbrev DV:=ak 0x7463656a626f
abbrev xo:=ak 0x676f6c5f6f64
abbrev gV:=ak 0x676f6c
abbrev xc:=ak 0x7463656a65725f6f64
abbrev og:=ak 0x7365696c706572
abbrev k_drop:=ak 0x706f7264
abbrev wZ:=ak 0x6b636172746f6e5f6f64
abbrev OK:=ak 0x7372656f645f676f6c
abbrev ry:=ak 0x7463656a6572
abbrev xm:=ak 0x6b636172746f6e
abbrev nZ:=ak 0x64616f6c7961705f746573
abbrev CV:=ak 0x74657320656220746f6e6e6163207461687420646c6569662061
abbrev OL:=ak 0x65756c61765f746573
abbrev tj:=ak 0x7465735f6f64
abbrev OM:=ak 0x7372656f645f746573
abbrev gW:=ak 0x746573
abbrev H4:=ak 0x666f5f6c6f6f74
abbrev uV:=ak 0x736c6f6f74
abbrev YS:=ak 0x20726f66206c6f6f74206f6e
abbrev Ou:=ak 0x666f5f74736575716572
abbrev EC:=ak 0x6e617073
abbrev E4:=ak 0x74656e
abbrev IE:=ak 0x70616d74656e
abbrev xq:=ak 0x74616e5f6f64
abbrev oG:=ak 0x74616e
abbrev pZ:=ak 0x64656d616e5f6f64
abbrev ON:=ak 0x7372656f645f74616e
abbrev m7:=ak 0x746365707865
abbrev xI:=ak 0x776f6c66
abbrev c4:=ak 0x7478656e5f77616c5f
abbrev sY:=ak 0x6b636568635f77616c5f
abbrev n8:=ak 0x7475705f77616c5f
abbrev wW:=ak 0x64656d6d75735f77616c5f
abbrev j0:=ak 0x736563616c705f77616c5f
abbrev Au:=ak 0x6469207069
abbrev Ag:=ak 0x6c7474207069
abbrev zv:=ak 0x74696d696c706f6820367069
abbrev Dn:=ak 0x74726f707320706374
abbrev zF:=ak 0x74726f706420706374
abbrev C2:=ak 0x65636e657571657320706374
abbrev Dc:=ak 0x7165736b636120706374
abbrev Dp:=ak 0x7367616c6620706374
abbrev Dd:=ak 0x776f646e697720706374
abbrev De:=ak 0x72747067727520706374
abbrev Dq:=ak 0x74726f707320706475
abbrev zG:=ak 0x74726f706420706475
abbrev rj:=ak 0x6b72616d206174656d
abbrev rf:=ak 0x797469726f697270206174656d
abbrev lj:=ak 0x6b72616d207463
abbrev xd:=ak 0x746f70735f77616c5f
abbrev rG:=ak 0x74756f6261
abbrev Up:=ak 0x207069
abbrev jx:=ak 0x65756c61765f77616c5f
abbrev lU:=ak 0x737265626d756e
abbrev C4:=ak 0x656372756f735f77616c5f
abbrev DA:=ak 0x7465735f77616c5f
abbrev zV:=ak 0x656e6f6e207069
abbrev Eb:=ak 0x746c756166
abbrev NT:=ak 0x656e6f6e20706920646c656966206e776f6e6b6e75
abbrev C5:=ak 0x74656d5f73695f77616c5f
abbrev s9:=ak 0x7469685f77616c5f
abbrev DB:=ak 0x74616e5f77616c5f
abbrev rW:=ak 0x70616d
abbrev DW:=ak 0x747065636361
abbrev zy:=ak 0x726574656d5f77616c5f
abbrev Pk:=ak 0x7463615f77616c5f
abbrev lT:=ak 0x6574617473207463
abbrev BJ:=ak 0x6e6f
abbrev NU:=ak 0x776f6c6620726f66206c6f6f74206f6e
abbrev xh:=ak 0x656e6f5f77616c5f
abbrev Df:=ak 0x73656d616e5f77616c5f
abbrev C6:=ak 0x7265747465735f77616c5f
abbrev uJ:=ak 0x7261656e5f77616c5f
abbrev pW:=ak 0x6874676e656c206174656d
abbrev w9:=ak 0x736e6170735f77616c5f
abbrev CZ:=ak 0x65676e61686378655f77616c5f
abbrev Tp:=ak 0x74616e73
abbrev Tq:=ak 0x74616e64
abbrev Hq:=ak 0x6564617265757173616d
abbrev HG:=ak 0x7463657269646572
abbrev DX:=ak 0x6d6f646e6172
abbrev Dg:=ak 0x746e6574736973726570
abbrev CX:=ak 0x746e656d65746174735f77616c5f
abbrev Jv:=ak 0x706d756a
abbrev wh:=ak 0x78
abbrev R0:=ak 0x206e656573
abbrev Tr:=ak 0x6e726177
abbrev Ts:=ak 0x6f666e69
abbrev R1:=ak 0x78706d6369
abbrev Tt:=ak 0x6f746f67
abbrev Wm:=ak 0x79
abbrev H5:=ak 0x70637364207069
abbrev Wn:=ak 0x66
abbrev Bl:=ak 0x707564
abbrev Hk:=ak 0x6c6562616c776f6c6620367069
abbrev C7:=ak 0x73746574636f5f77616c5f
abbrev Hw:=ak 0x6c6f6f745f77616c5f
abbrev Hr:=ak 0x64656d616e5f77616c5f
abbrev Dh:=ak 0x656e6563735f77616c5f
abbrev fR:=ak 0x656e656353
abbrev zW:=ak 0x64726177726f66
abbrev lx:=ak 0x6b6c6154
abbrev zu:=ak 0x656b696c615f73695f77616c5f
abbrev AW:=ak 0x6b6f6f68
abbrev Av:=ak 0x736b6c6174
abbrev tI:=ak 0x73746573
abbrev zX:=ak 0x737463656a626f
abbrev Bm:=ak 0x73706f
abbrev Aw:=ak 0x726564726f
abbrev DY:=ak 0x656c7474696c
abbrev k_steps:=ak 0x7370657473
abbrev Ax:=ak 0x73656d6f68
abbrev ahs:=ak 0x7475706e69
abbrev d8:=ak 0x656c7552
abbrev IF:=ak 0x656c646e6168
abbrev H6:=ak 0x746e656d6d6f63
abbrev Jw:=ak 0x73776f72
abbrev IG:=ak 0x7265626d756e
abbrev I8:=ak 0x65636e6973
abbrev I9:=ak 0x7365646973
abbrev IH:=ak 0x72657473616d
def YI:Fn:=⟨3,[],5,[aV 3<|.fq [],.dN (.tup [fH,iW,jJ,iC]) aN [.aQ (.sub aZ<|bw (bw ax<|Y Wl) be)<|qzT [Y du,gq,dU,Y cb,qzT [ax,aE,ck]]],bh aZ]⟩
def aag:Fn:=⟨0,[],0,[bh<|aP zt [Y kA,Y fA,qzT [qzT [Y PX,B 0,B 4,Y cz],qzT [Y aad,B 4,B 4,Y cz],qzT [Y xG,B 8,B 6,Y xG],qzT [Y yd,B 14,B 2,Y yd],qzT [Y uO,B 16,B 16,Y cz],qzT [Y anP,B 32,B 16,Y cz],qzT [Y aa3,B 48,B 16,Y cz],qzT [Y amz,B 64,B 8,Y cz],qzT [Y xe,B 72,B 8,Y sX],qzT [Y HC,B 80,B 16,Y cz],qzT [Y RW,B 96,B 32,Y mY],qzT [Y RX,B 128,B 32,Y mY]]]]⟩
def ZE:Fn:=⟨0,[],0,[bh<|aP zt [Y lA,Y fA,qzT [qzT [Y PX,B 0,B 4,Y cz],qzT [Y xG,B 4,B 6,Y xG],qzT [Y yd,B 10,B 2,Y yd],qzT [Y aae,B 12,B 20,Y cz],qzT [Y uO,B 32,B 16,Y cz],qzT [Y acr,B 48,B 8,Y sX],qzT [Y aa4,B 56,B 8,Y cz],qzT [Y RW,B 64,B 128,Y mZ],qzT [Y RX,B 192,B 128,Y mZ]]]]⟩
def ZF:Fn:=⟨0,[],0,[bh<|aP zt [Y iy,Y iw,qzT [qzT [Y RY,B 0,B 16,Y iP],qzT [Y RZ,B 16,B 16,Y iP],qzT [Y aa5,B 32,B 32,Y cz],qzT [Y aes,B 64,B 32,Y cz],qzT [Y akm,B 96,B 4,Y cz],qzT [Y aa6,B 100,B 4,Y cz],qzT [Y aho,B 104,B 8,Y HD],qzT [Y aet,B 112,B 16,Y cz],qzT [Y HC,B 128,B 16,Y cz],qzT [Y aeu,B 144,B 16,Y cz]]]]⟩
def ZG:Fn:=⟨0,[],0,[bh<|aP zt [Y tP,Y iw,qzT [qzT [Y RY,B 0,B 16,Y iP],qzT [Y RZ,B 16,B 16,Y iP],qzT [Y uO,B 32,B 16,Y cz],qzT [Y HC,B 48,B 16,Y cz]]]]⟩
def Zb:Fn:=⟨0,[],6,[aV 0<|qzT [qzT [Y uO,B 32,Y fS,Y cz],qzT [Y xe,B 16,Y cb,Y Ol],qzT [Y H0,B 8,Y cb,Y Dv],qzT [Y H2,B 8,Y cb,Y sX],qzT [Y fC,B 32,Y fS,Y fC],qzT [Y pX,B 32,Y fS,Y cz],qzT [Y Bh,B 32,Y fS,Y C3],qzT [Y Bi,B 32,Y fS,Y C3],qzT [Y zO,B 128,Y cb,Y DR],qzT [Y zP,B 128,Y cb,Y DR],qzT [Y zQ,B 16,Y fS,Y cz],qzT [Y zR,B 16,Y fS,Y cz],qzT [Y zS,B 8,Y cb,Y O8]],aV 1<|.fq [],.dN (.tup [mx,iB,fH,iW]) ax [.aQ (.sub aE<|bw (Y ahp) aN)<|qzT [Y e8,ck,aZ,be,aN]],bh aE]⟩
def aah:Fn:=⟨0,[],9,[aV 0<|qzT [qzT [Y k_state,B 32,Y fS,Y O9],qzT [Y uP,B 32,Y fS,Y OG],qzT [Y Hu,B 8,Y cb,Y QR],qzT [Y fC,B 32,Y fS,Y fC],qzT [Y vc,B 16,Y fS,Y cz],qzT [Y Hn,B 32,Y fS,Y To],qzT [Y PY,B 8,Y cb,Y Dv],qzT [Y xe,B 8,Y cb,Y sX]],aV 1<|qzT [qzT [Y zH,Y IA,B 32,Y mY],qzT [Y zI,Y IB,B 32,Y mY],qzT [Y zA,Y IC,B 128,Y mZ],qzT [Y zB,Y ID,B 128,Y mZ],qzT [Y Dj,Y Dj,B 16,Y iP],qzT [Y Dk,Y Dk,B 16,Y iP]],aV 2<|.fq [],.dN (.tup [iB,fH,iW,jJ]) ax [.aQ (.sub aN<|bw (Y Un) aZ)<|qzT [Y fu,dU,be,ck,qzT [aZ,Y k_]]],.dN iC (qzT [Y n7,Y nc]) [.dN (.tup [oQ,iB,fH,jJ]) aE [.aQ (.sub aN<|bw (bw (bw (Y Un) gq)<|Y Wl) dg)<|qzT [Y fu,dU,be,Y cb,qzT [aZ,gq]]]],bh aN]⟩
def aa7:Fn:=⟨1,[],1,[aV 1<|.aA [(Y ahq,qzT []),(Y anQ,qzT []),(Y akn,qzT [qzT [Y YQ,B 33024]]),(Y amA,qzT [qzT [Y N0,B 2054]]),(Y kA,qzT [qzT [Y jw,B 2]]),(Y lA,qzT [qzT [Y jw,B 10]]),(Y iy,qzT [qzT [Y i9,B 6]]),(Y tP,qzT [qzT [Y i9,B 17]]),(Y vd,qzT [qzT [Y jw,B 2],qzT [Y i9,B 1]]),(Y Af,qzT [qzT [Y jw,B 10],qzT [Y i9,B 58]])],bY (.cmp .lu ax aE) [.raise<|bw (bw (Y Ys) ax)<|Y Uo],bh<|.sub aE ax]⟩
def Zc:Fn:=⟨2,[],0,[bY (.cmp .lu aE ax) [.raise<|bw (bw (Y Yz) aE)<|Y Uo],bh<|.sub ax aE]⟩
def aai:Fn:=⟨1,[],0,[bh<|iV (aK ax 0)<|qzT [Y ve,Y yx,Y E3,Y Kg,Y Kh]]⟩
def Zd:Fn:=⟨3,[],0,[.uY (aP OH [aE]) [aV 1<|aK aE 1],bB (aX (aK aE 0)<|Y ako) bA,bY (ek (aK aE 0)<|Y lr) [.raise<|bw (bw (bw (Y amB) aN)<|Y YH)<|aK aE 0],bh<|aP Od [ax,aK aE 1]]⟩
def acs:Fn:=⟨2,[],2,[aV 2<|aP Oe [ax,aE,Y k_size],bB (eH aN bA)<|B 4,aV 3<|.ite (aX (aK aN 0)<|Y du) (cH (aK (aK aN 4) 2)<|B 8)<|B 0,bh<|eP (bw (bw aZ<|aK aN 2)<|B 7)<|B 8]⟩
def aa8:Fn:=⟨1,[],0,[bB (aX (aK ax 0)<|Y aev)<|aK ax 1,bh<|qzT [ax]]⟩
def aaj:Fn:=⟨1,[],2,[aV 1<|B 0,.dN mx ax [aV 1<|.bin .bor (.bin .shl aE<|B 8) aN],bh aE]⟩
def aak:Fn:=⟨2,[],0,[bY (.or [gX ax<|B 0,ek (.bin .shr ax<|gH (B 8) aE)<|B 0]) [.raise<|Y Yi],bh<|.bi .bytes [.comp (mw (.bin .shr aE<|gH (B 8)<|fV (fV aN<|B 1) ax)<|B 255) (.bi .range [aE]) ag [0,1]]]⟩
def acu:Fn:=⟨3,[],3,[aV 3<|eP aE<|B 8,aV 4<|eP (bw (bw aE aN)<|B 7)<|B 8,bB (kz be<|dH ax) bA,aV 5<|fV (fV (gH (B 8) be) aE) aN,bh<|mw (.bin .shr (aP n5 [.eY ax (aa aZ)<|aa be]) ck)<|fV (.bin .shl (B 1) aN)<|B 1]⟩
def aew:Fn:=⟨1,[],0,[.uY (ek (.bin .shr ax<|B 16)<|B 0) [aV 0<|bw (mw ax<|B 65535)<|.bin .shr ax<|B 16],bh ax]⟩
def akr:Fn:=⟨3,[],2,[bY (.or [ek (dH aE)<|dH aN,aX (cH (dH aE)<|B 2)<|B 1]) [.raise<|Y Yh],aV 3<|fV (B 65535) ax,.dN fH (.bi .range [B 0,dH aE,B 2]) [aV 3<|fV (bw aZ<|B 65535)<|.bin .bor (.bin .shl (.sub aE be)<|B 8)<|.sub aE<|bw be<|B 1,aV 3<|bw aZ<|.bin .bor (.bin .shl (.sub aN be)<|B 8)<|.sub aN<|bw be<|B 1],bh<|fV (B 65535)<|aP DS [aZ]]⟩
def aht:Fn:=⟨1,[],2,[bB (.or [gX (dH ax)<|B 20,ek (.bin .shr (aK ax 0)<|B 4)<|B 4]) bA,aV 1<|gH (mw (aK ax 0)<|B 15)<|B 4,bB (.or [gX aE<|B 20,kz aE<|dH ax]) bA,aV 2<|aP n5 [.eY ax (aa<|B 6)<|aa<|B 8],bh<|qzT [aK ax 9,aE,gH (mw aN<|B 8191)<|B 8,ek (mw aN<|B 8192)<|B 0]]⟩
def aal:Fn:=⟨2,[],0,[bB (iV ax<|qzT [B 0,B 43,B 60])<|gH (bw aE<|B 1)<|B 8,bB (aX ax<|B 51)<|gH (bw aE<|B 2)<|B 4,bB (aX ax<|B 44)<|B 8,bh<|B 0]⟩
def acv:Fn:=⟨4,[],1,[bB (aX (aP Hv [aN,B 0])<|B 0)<|B 0,bB (kz (bw aE<|B 2) aZ)<|.neg<|B 1,aV 4<|aP Hv [aN,.sub ax<|bw aE<|B 1],bB (kz (bw aE be) aZ)<|.neg<|B 1,bh be]⟩
def ahu:Fn:=⟨1,[],5,[bB (.or [gX (dH ax)<|B 40,ek (.bin .shr (aK ax 0)<|B 4)<|B 6]) bA,aV 1<|aK ax 6,aV 2<|B 40,aV 3<|B 0,aV 4<|.bU<|.bool aq,.uY (aX aZ<|B 0) [aV 5<|aP P0 [ax,aN,aE,dH ax],bB (.or [gX ck<|B 0,.and [aX aE<|B 0,kz aN<|B 40]]) bA,bY (aX ck<|B 0) [.brk],bY (aX aE<|B 44) [aV 3<|aP HE [ax,aN],aV 4<|aX (mw (.sub ax<|bw aN<|B 3)<|B 1)<|B 1],aV 1<|.sub ax aN,.tX 2 ck],bh<|qzT [aE,aN,aZ,be]]⟩
def aa9:Fn:=⟨0,[],2,[aV 0<|.fq [],.dN anO (qzT [Y fC,Y pX,Y Bh,Y Bi,Y zO,Y zP,Y zS]) [.aQ (.sub ax aE)<|B 0],.aQ (.sub ax<|Y zQ)<|B 1,.aQ (.sub ax<|Y zR)<|B 1,bh ax]⟩
def aks:Fn:=⟨1,[],1,[.aQ (.attr ax jK)<|.neg<|B 1,.aQ (.attr ax jE)<|.neg<|B 1,.aQ (.attr ax uT)<|B 0,aV 1 bA,.ifs (aX (bP l7)<|B 2048) [aV 1<|aP Aq [bP k_data]] [bY (aX (bP l7)<|B 34525) [aV 1<|aP D9 [bP k_data]]],bY (eH aE bA) [.ret ag],.aQ (.attr ax jK)<|aK aE 0,.aQ (.attr ax uT)<|aK aE 2,bY (.and [aX (aK aE 2)<|B 0,.cmp .le (aK aE 1)<|dH<|bP k_data]) [.aQ (.attr ax jE)<|aK aE 1]]⟩
def aam:Fn:=⟨3,[.int 2048,.bb []],1,[aV 3<|aP j4 [ax,aE,aN],.expr<|aP Ew [aZ],bh aZ]⟩
def aan:Fn:=⟨1,[],0,[bB (aX (bP l7)<|B 2048)<|B 2,bB (aX (bP l7)<|B 34525)<|B 10,bB (aX (bP l7)<|B 2054)<|B 3,bh<|B 0]⟩
def acw:Fn:=⟨2,[],0,[bB (aX aE<|Y fA)<|qzT [bP k_data,B 0],bY (aX aE<|Y iw) [bB (gX (bP jE)<|B 0) bA,bh<|qzT [bP k_data,bP jE]],bY (ek aE<|Y qj) [.raise<|Y YR],bB (aX (dH<|bP qj)<|B 0) bA,bh<|qzT [bP qj,B 0]]⟩
def akt:Fn:=⟨4,[],2,[aV 4<|aP DF [ax,aE],bB (.or [eH be bA,gX aN<|B 0]) bA,aV 5<|bw (aK be 1) aN,bB (kz (bw ck aZ)<|dH<|aK be 0) bA,bh<|.bi .bytes [.eY (aK be 0) (aa ck)<|aa<|bw ck aZ]]⟩
def ZH:Fn:=⟨4,[],1,[aV 4<|aP DF [ax,aE],bB (.or [eH be bA,gX aN<|B 0]) bA,bh<|aP zT [aK be 0,bw (gH (aK be 1)<|B 8) aN,aZ]]⟩
def aba:Fn:=⟨4,[],2,[aV 4<|aP DF [ax,aE],bY (.or [eH be bA,gX aN<|B 0,kz (bw (bw (aK be 1) aN)<|dH aZ)<|dH<|aK be 0]) [.raise<|Y Yj],aV 5<|bw (aK be 1) aN,.aQ (.eY (aK be 0) (aa ck)<|aa<|bw ck<|dH aZ) aZ]⟩
def aao:Fn:=⟨1,[],0,[bB (aX ax<|B 6)<|B 16,bB (aX ax<|B 17)<|B 6,bB (iV ax<|qzT [B 1,B 58])<|B 2,bh<|.neg<|B 1]⟩
def aex:Fn:=⟨4,[],2,[aV 4<|.bi .max [ax,aN],aV 5<|.bi .min [aE,aZ],bB (.cmp .ge be ck)<|qzT [B 0,B 0],bh<|qzT [gH (eP be<|B 2)<|B 2,gH (eP (bw ck<|B 1)<|B 2)<|B 2]]⟩
def zK:Fn:=⟨3,[],3,[aV 3<|.kj [],bY (.and [aX (bP l7)<|B 2048,.cmp .ge (bP jK)<|B 0]) [.expr<|.hO aZ<|qzT [B 10,.lst [aP lW [aE,aN,B 0,gH (mw (aK (bP k_data) 0)<|B 15)<|B 4]]]],aV 4<|aP OI [bP jK],bY (.and [.cmp .ge (bP jE)<|B 0,.cmp .ge be<|B 0]) [aV 5<|.kj [aP lW [aE,aN,bP jE,dH<|bP k_data]],.ifs (.and [ek (bP jK)<|B 1,aX (bP l7)<|B 2048]) [.expr<|.hO ck<|aP lW [aE,aN,B 12,B 20]] [bY (ek (bP jK)<|B 1) [.expr<|.hO ck<|aP lW [aE,aN,B 8,B 40]]],.expr<|.hO aZ<|qzT [bw (bP jE) be,ck]],bh<|.comp ax aZ (aa<|.and [.cmp .le (bw (aK ax 0)<|B 2)<|dH<|.attr aZ k_data,.or [.cmp .le aN<|aK ax 0,.cmp .le (bw (aK ax 0)<|B 2) aE]]) [1,2,0]]⟩
def abb:Fn:=⟨3,[],1,[aV 3<|.bi .bytes [.eY ax (aa aE)<|aa aN],bY (gX (dH aZ)<|fV aN aE) [.tX 3<|.bU<|.bb [0]],bh aZ]⟩
def acx:Fn:=⟨5,[],3,[aV 5<|aP n5 [.eY aE (aa aN)<|aa<|bw aN<|B 2],bY (.and [be,aX ck<|B 0]) [.ret ag],.dN (.tup [jJ,iC]) aZ [bY (gX dU gq) [aV 5<|aP vf [ck,aP pY [aE,dU,gq],aP pY [bP k_data,dU,gq]]]],bY (.and [be,aX ck<|B 0]) [aV 5<|B 65535],.aQ (.eY (bP k_data) (aa aN)<|aa<|bw aN<|B 2)<|aP ri [ck,B 2]]⟩
def ZI:Fn:=⟨4,[],5,[bY (aX aE<|Y qj) [.expr<|aP sZ [ax,aE,aN,aZ],.ret ag],aV 4<|.bi .bytes [bP k_data],aV 5 aN,bY (aX aE<|Y iw) [aV 5<|bw (bP jE) aN],aV 6<|aP s8 [ax,ck,bw ck<|dH aZ],.expr<|aP sZ [ax,aE,aN,aZ],.dN (.tup [iC,oQ]) dU [.expr<|aP tf [ax,be,gq,dg,.and [aX (bP jK)<|B 17,ek gq<|B 10]]]]⟩
def acy:Fn:=⟨2,[],1,[.dN mx (.bi .range [dH ax]) [bB (.or [gX (.sub aE aN)<|aK (.sub ax aN) 0,kz (.sub aE aN)<|aK (.sub ax aN) 1])<|.bU<|.bool aq],bh<|.bU<|.bool ae]⟩
def Pl:Fn:=⟨2,[],4,[aV 2<|B 0,.dN iB (.attr aE zx) [aV 4<|.qr (bP tz)<|aK aZ 0,bY (eH be bA) [.raise<|bw (Y C0)<|aK aZ 0],aV 5<|.call be [ax,aZ,aE,aN],bB (.and [lE ck bA,ek (aK ck 0)<|Y m5]) ck,.tX 2<|B 1],bh bA]⟩
def aap:Fn:=⟨2,[],1,[.dN mx (aP Pf [aE]) [bB (ek (aP gh [ax,qzT [Y lr,aK aN 0]])<|aK aN 1)<|.bU<|.bool aq],bh<|.bU<|.bool ae]⟩
def abc:Fn:=⟨2,[],0,[bh<|aP PZ [bP rp,aE]]⟩
def acz:Fn:=⟨3,[],1,[aV 3<|.qr (bP uL) aE,bY (eH aZ bA) [.raise<|bw (Y YC) aE],bh<|.call aZ [ax,aN]]⟩
def aey:Fn:=⟨2,[],3,[.aQ (.tup [mx,iB,fH])<|qzT [aK aE 0,aK aE 2,aP gh [ax,aK aE 1]],bB (eH be bA) bA,bB (iV aN<|qzT [Y ve,Y Kh])<|.ite (aX aN<|Y ve) (mw be aZ)<|.bin .shr be aZ,.ifs (aX aN<|Y Kg) [aV 4<|.bin .shl be aZ] [aV 4<|.ite (aX aN<|Y yx) (.bin .bor be aZ)<|.bin .bxor be aZ],bh<|mw be<|fV (.bin .shl (B 1)<|gH (B 8)<|aP Dx [ax,aE])<|B 1]⟩
def abd:Fn:=⟨2,[],2,[aV 2<|aK aE 0,bY (aX aN<|Y lr) [aV 3<|.qr (bP rp)<|aK aE 1,bY (eH aZ bA) [.raise<|bw (Y NX)<|aK aE 1],bh<|aP H3 [ax,aK aZ 0,aZ]],bB (aX aN<|Y jF)<|aK aE 1,bB (iV aN<|qzT [Y ve,Y yx,Y E3,Y Kg,Y Kh])<|aP DT [ax,aE],bh<|aP H3 [ax,aN,aE]]⟩
def aez:Fn:=⟨2,[],3,[aV 2<|.kj [],.dN iB (aP Ph [aE]) [aV 4<|aP gh [ax,aZ],bB (eH be bA) bA,.expr<|.hO aN be],bh<|.bi .tuple [aN]]⟩
def ahv:Fn:=⟨3,[],2,[bY (aX (aK aE 0)<|Y amC) [aV 3 .H,bh<|.ite (eH aZ bA) bA<|.attr aZ k_data],.dN fH (aK aE 1) [bB (aP DG [aK be 0,aN])<|aK be 1],bh bA]⟩
def abe:Fn:=⟨3,[],0,[bB (iV ax<|qzT [Y yy,Y Ey])<|aX (aX aE aN)<|aX ax<|Y yy,bB (iV ax<|qzT [Y Bj,Y Ez])<|aX (gX aE aN)<|aX ax<|Y Bj,bB (iV ax<|qzT [Y Bk,Y EA])<|aX (kz aE aN)<|aX ax<|Y Bk,bB (iV ax<|qzT [Y ye,Y EB])<|aX (ek (mw aE aN)<|B 0)<|aX ax<|Y ye,.raise<|bw (Y Za) ax]⟩
def ZJ:Fn:=⟨2,[],1,[aV 2<|bP iQ,bB (aX aE<|Y H2)<|.ite (gX (.attr aN jK)<|B 0) bA<|.attr aN jK,bB (aX aE<|Y H0)<|aP zC [aN],bB (iV aE<|qzT [Y uO,Y xe])<|.ite (aX aE<|Y uO) (dH<|.attr aN k_data)<|.attr aN l7,bh<|.qr (.attr aN e8) aE]⟩
def abf:Fn:=⟨3,[],2,[aV 3<|bP l8,bB (aX aE<|Y k_state)<|bP k_state,bB (eH aZ bA) bA,aV 4<|.fq [(Y uP,.attr aZ uP),(Y Hu,bP xf),(Y fC,.attr aZ fC),(Y vc,.attr aZ vc)],.aQ (.sub be<|Y Hn)<|.bi .max [fV (.attr aZ Ea)<|bP tQ,B 0],bB (iV aE be)<|.sub be aE,bh<|aP Ho [.ite (aX aN<|Y nc) (.attr aZ nc)<|.attr aZ n7,aE]]⟩
def YT:Fn:=⟨2,[],3,[.aQ (.tup [mx,iB,fH])<|aK aE 4,bB (.not<|aP uI [ax,aN]) bA,bh<|aP Om [bP iQ,aZ,be,aK aE 2]]⟩
def aaq:Fn:=⟨2,[],0,[bh<|aP Oo [ax,aK aE 4]]⟩
def acA:Fn:=⟨2,[],0,[bh<|aP Pj [ax,aK (aK aE 4) 0,aK (aK aE 4) 1]]⟩
def YU:Fn:=⟨0,[],0,[bh<|.aA [(Y du,.dB C1),(Y e8,.dB Dm),(Y fu,.dB DH)]]⟩
def abg:Fn:=⟨4,[],4,[aV 4<|aP rq [ax,aK aE 1],bB (eH be bA)<|qzT [Y gU,Y k_],.aQ (.tup [iW,jJ])<|qzT [aK aE 2,aK aE 3],.ifs (aX (aK dU 0)<|Y jF) [aV 7<|aP Dy [ck,aK be 0,aK dU 1]] [aV 7<|aX (aP HF [ax,be,dU])<|aX ck<|Y yy],bh<|.ite gq bA<|qzT [Y gU,Y k_]]⟩
def ZK:Fn:=⟨4,[],0,[bh<|aK aE 1]⟩
def acB:Fn:=⟨4,[],2,[aV 4<|aP rq [ax,aK aE 1],bB (eH be bA)<|qzT [Y gU,Y k_],aV 5<|aP uU [ax,aK aE 2,be],bh<|.ite (eH ck bA) (qzT [Y gU,Y k_]) ck]⟩
def ZL:Fn:=⟨0,[],0,[bh<|.fq [(Y xw,.dB xg),(Y tg,.dB wY),(Y xH,.dB xk)]]⟩
def ZM:Fn:=⟨3,[],0,[bY (.bi .isinstance [ax,.dB th]) [.tY ax zU<|B 1,.tY ax g8 aN,bh<|.bU<|.bool ae],bY (.bi .isinstance [ax,.dB rF]) [.tY ax vh aN,bB (bP xl)<|.cmp .ge (bP vh)<|bP g8,bh<|gX (bP vh)<|bP g8],bh<|aP Hm [ax,aE,aN]]⟩
def aar:Fn:=⟨1,[],1,[aV 1<|aK ax 0,bB (aX aE<|Y lh)<|aP th [aK ax 1,aK ax 2],bB (aX aE<|Y lY)<|aP rF [aK ax 1,aK ax 2,aK ax 3],bB (aX aE<|Y As)<|aP Hp [aK ax 1,aK ax 2,aK ax 3,aK ax 4,aK ax 5],bh bA]⟩
def YD:Fn:=⟨1,[],0,[bB (.bi .isinstance [ax,.dB th])<|qzT [Y lh,bP zU,bP g8],bB (.bi .isinstance [ax,.dB rF])<|qzT [Y lY,bP xl,bP g8,bP vh],bh<|qzT [Y As,bP xl,bP akp,bP akq,bP ahr,bP aaf]]⟩
def abh:Fn:=⟨1,[],4,[aV 1 .vA,.dN mx (.bi .range [dH ax]) [aV 3<|aP zD [.sub ax aN],.ifs (lE aZ bA) [.aQ (.sub aE aN) aZ] [bY (aX (aK (.sub ax aN) 0)<|Y QS) [.dN fH (aK (.sub ax aN) 5) [.expr<|aP zD [be]]]]],bh aE]⟩
def acC:Fn:=⟨2,[],0,[bh<|fV (.bin .shl (B 1) aE)<|.bin .shl (B 1)<|fV aE ax]⟩
def Ze:Fn:=⟨3,[],1,[aV 3<|mw ax<|aP P5 [aE,aN],bh<|qzT [aZ,fV (bw aZ<|.bin .shl (B 1)<|fV aN aE)<|B 1]]⟩
def aeA:Fn:=⟨2,[],0,[bB (.and [lE aE bA,aP Ot [aE,bP tQ,dH<|.attr (bP iQ) k_data]]) bA,bh<|qzT [Y gU,Y k_]]⟩
def abi:Fn:=⟨4,[],0,[bY (.cmp .lu aZ<|.attr aN k_cells) [.raise<|Y Yk],bh<|aP DU [ax,.sub (.attr aN k_cells) aZ]]⟩
def Zf:Fn:=⟨0,[],0,[bh<|.aA [(Y lh,.dB k9),(Y lY,.dB k9),(Y As,.dB k9),(Y DV,.dB zE)]]⟩
def aeB:Fn:=⟨4,[],0,[.expr<|.hO (bP gV)<|qzT [aK aE 1,aK aE 2,bP tQ]]⟩
def aas:Fn:=⟨4,[],1,[aV 4<|aK aE 1,bB (.and [aX be<|Y iy,ek (.attr (bP iQ) jK)<|B 6])<|qzT [Y gU,Y k_],bB (.and [iV be<|qzT [Y vd,Y Af],ek (aP zC [bP iQ])<|.ite (aX be<|Y vd) (B 2)<|B 10])<|qzT [Y gU,Y k_],.expr<|.hO (bP og)<|qzT [aK aE 1,aK aE 2],bh<|qzT [Y k_drop,Y k_]]⟩
def ZN:Fn:=⟨4,[],0,[bY (eH (bP l8) bA) [.aQ (.attr ax k_state)<|B 64]]⟩
def aat:Fn:=⟨0,[],0,[bh<|.aA [(Y gV,.dB xo),(Y ry,.dB xc),(Y xm,.dB wZ)]]⟩
def Zg:Fn:=⟨3,[],5,[.aQ (.tup [iB,fH,iW])<|aK aE 4,bY (.or [ek (cH ck<|B 8)<|B 0,ek (cH (aK aE 2)<|B 8)<|B 0]) [.raise<|Y CV],.aQ (.tup [jJ,iC])<|qzT [eP ck<|B 8,eP (aK aE 2)<|B 8],bB (.or [.not<|aP uI [ax,aZ],eH (aP vg [bP iQ,be,dU,gq]) bA])<|.bU<|.bool aq,.expr<|aP wX [bP iQ,be,dU,aP ri [aN,gq]],bh<|.bU<|.bool ae]⟩
def aau:Fn:=⟨3,[],2,[.aQ (.tup [iB,fH])<|qzT [aK aE 0,aK aE 4],bB (aX aZ<|Y du)<|aP nZ [ax,aE,aN],bY (.and [aX aZ<|Y e8,iV be<|qzT [Y fC,Y pX]]) [.aQ (.sub (.attr (bP iQ) e8) be) aN,bh<|.bU<|.bool ae],bY (.and [aX aZ<|Y fu,aX (aK be 0)<|Y fC]) [bY (lE (bP l8) bA) [.aQ (.attr (bP l8) fC) aN],bh<|.bU<|.bool ae],.raise<|Y CV]⟩
def aeC:Fn:=⟨4,[],1,[bY (.cmp .lu (aK aE 1)<|bP rp) [.raise<|bw (Y NX)<|aK aE 1],aV 4<|aP gh [ax,aK aE 2],bB (.or [eH be bA,.not<|aP OL [ax,.sub (bP rp)<|aK aE 1,be]])<|qzT [Y gU,Y k_],bh bA]⟩
def aav:Fn:=⟨0,[],0,[bh<|.aA [(Y gW,.dB tj)]]⟩
def acD:Fn:=⟨2,[],1,[aV 2<|.qr (bP uV) aE,bY (eH aN bA) [.raise<|bw (Y YS) aE],bh aN]⟩
def ZO:Fn:=⟨2,[],9,[.aQ (.tup [mx,iB,fH,iW,jJ])<|.eY aE (aa<|B 1) ag,.aQ (.tup [iC,oQ])<|qzT [bA,bA],.ifs (.and [lE be bA,aX (aK be 0)<|Y EC]) [.aQ (.tup [iC,oQ])<|qzT [aK be 1,aK be 2]] [.ifs (.and [lE be bA,aX (aK be 0)<|Y E4]) [.aQ (.tup [iC,oQ])<|aP wV [aK be 1,aK be 2,.ite (aX aZ<|B 2) (B 32)<|B 128],aV 6<|bw dU<|qzT [Y IE]] [bY (lE be bA) [aV 9<|aP rq [ax,aK be 1],aV 10<|.ite (eH gv bA) bA<|aP uU [ax,aK be 2,gv],bB (eH (.ba 10) bA) bA,.aQ (.tup [iC,oQ])<|qzT [aK (.ba 10) 0,aK (.ba 10) 0],bY (kz (dH<|.ba 10)<|B 1) [aV 5<|qzT [aK (.ba 10) 1,aK (.ba 10) 1]]]]],bh<|qzT [aN,aZ,gq,dg,ck,dU]]⟩
def aeD:Fn:=⟨4,[],2,[aV 4<|aP Ou [ax,aE],bB (eH be bA)<|qzT [Y gU,Y k_],aV 5<|aP H4 [ax,Y oG],bh<|.call ck [ax,be]]⟩
def abj:Fn:=⟨4,[],1,[aV 4<|aP H4 [ax,aK aE 0],bh<|.call be [ax,aK aE 1]]⟩
def aaw:Fn:=⟨0,[],0,[bh<|.aA [(Y oG,.dB xq),(Y m7,.dB pZ),(Y xI,.dB pZ)]]⟩
def aax:Fn:=⟨1,[],1,[aV 1<|aK ax 1,.aQ (.sub ax<|B 1)<|bw aE<|B 1,bB (gX aE<|dH<|aK ax 0)<|.sub (aK ax 0) aE,bh<|eP (gH (gH (bw aE<|B 3)<|bw (bw aE<|B 7)<|aK ax 2)<|B 40503)<|B 64]⟩
def ZP:Fn:=⟨1,[],1,[aV 0<|bw ax<|gH (.lst [B 0])<|cH (dH ax)<|B 2,aV 1<|cH (.bi .sum [.comp (bw (gH (.sub aE ax)<|B 256)<|.sub aE<|bw ax<|B 1) (.bi .range [B 0,dH ax,B 2]) ag [0]])<|B 65535,bh<|.ite (kz aE<|B 0) (fV (B 65535) aE)<|B 0]⟩
def abk:Fn:=⟨4,[],1,[.dN fH (.bi .range [aN]) [.aQ (.sub ax<|bw aE be)<|cH (eP aZ<|qz (B 256)<|fV (fV aN<|B 1) be)<|B 256]]⟩
def C8:Fn:=⟨2,[],10,[.aQ (.tup [mx,iB,fH,iW,jJ,iC]) aE,bY aN [.aQ (.tup [.sub ax<|B 10,.sub ax<|B 11])<|qzT [B 0,B 0],.expr<|aP n8 [ax,B 10,B 2,aP sY [.eY ax ag<|aa be]]],.aQ (.tup [oQ,BH])<|qzT [bw be<|.ite (aX aZ<|B 6) (B 16)<|B 6,fV (dH ax) be],bY (.or [aX aZ<|B 47,ck,kz (bw dg<|B 2)<|dH ax]) [.ret ag],.aQ (.tup [.sub ax dg,.sub ax<|bw dg<|B 1])<|qzT [B 0,B 0],bY (.not dU) [aV 10<|.ite aN (.eY ax (aa<|B 12)<|aa<|B 20)<|.eY ax (aa<|B 8)<|aa<|B 40,aV 11<|aP sY [bw (bw (.ba 10)<|.lst [B 0,aZ,B 0,gv])<|.eY ax (aa be) ag],.expr<|aP n8 [ax,dg,B 2,.ite (.and [aX aZ<|B 17,aX (.ba 11)<|B 0]) (B 65535)<|.ba 11]]]⟩
def Zh:Fn:=⟨0,[],0,[bh<|.aA [(Y Au,qzT [B 4,B 2]),(Y Ag,qzT [B 8,B 1]),(Y zH,qzT [B 12,B 4]),(Y zI,qzT [B 16,B 4]),(Y zv,qzT [B 7,B 1]),(Y zA,qzT [B 8,B 16]),(Y zB,qzT [B 24,B 16]),(Y Dn,qzT [B 0,B 2]),(Y zF,qzT [B 2,B 2]),(Y C2,qzT [B 4,B 4]),(Y Dc,qzT [B 8,B 4]),(Y Dp,qzT [B 13,B 1]),(Y Dd,qzT [B 14,B 2]),(Y De,qzT [B 18,B 2]),(Y Dq,qzT [B 0,B 2]),(Y zG,qzT [B 2,B 2]),(Y rj,qzT [B 0,B 4]),(Y rf,qzT [B 0,B 4]),(Y lj,qzT [B 0,B 4])]]⟩
def aay:Fn:=⟨2,[],9,[.aQ (.tup [mx,iB,fH,iW,jJ,iC])<|.sub ax<|Y rG,.aQ (.tup [oQ,BH])<|.sub (aP j0 []) aE,aV 10<|.eY aE ag<|aa<|B 3,bB (aX (.ba 10)<|Y Up)<|.ite aN dg<|.neg<|B 1,bB (aX (.ba 10)<|Y lA)<|.ite aN (.neg<|B 1) dg,bB (.or [ek aZ<|.ite (aX (.ba 10)<|Y iy) (B 6)<|B 17,ck,kz (bw (bw be dg) gv)<|dH<|.sub ax<|Y g8])<|.neg<|B 1,bh<|bw be dg]⟩
def ZQ:Fn:=⟨2,[],3,[bB (iV aE<|.sub ax<|Y lU)<|.sub (.sub ax<|Y lU) aE,.aQ (.tup [mx,iB])<|qzT [aP xd [ax,aE],B 0],bB (gX aN<|B 0) bA,.dN fH (.eY (.sub ax<|Y g8) (aa aN)<|aa<|bw aN<|aK (.sub (aP j0 []) aE) 1) [aV 3<|bw (gH aZ<|B 256) be],bh aZ]⟩
def Zi:Fn:=⟨2,[],1,[bB (aX (aK aE 0)<|Y jF)<|aK aE 1,bB (aX (aK aE 0)<|Y lr)<|aP jx [ax,aK aE 1],aV 2<|aP jx [ax,aK (aK aE 1) 1],bB (eH aN bA) bA,bh<|.ite (aX (aK aE 0)<|Y ve) (mw aN<|aK aE 2)<|.ite (aX (aK aE 0)<|Y yx) (.bin .bor aN<|aK aE 2)<|.bin .bxor aN<|aK aE 2]⟩
def abl:Fn:=⟨3,[],2,[bB (aX aE<|Y zV)<|qzT [Y Eb,Y NT],aV 3<|aP C4 [ax,aN],bB (eH aZ bA)<|qzT [Y gU,Y k_],bB (.cmp .lu aE<|aP j0 [])<|qzT [Y Eb,Y CV],bY (iV aE<|.sub ax<|Y lU) [bY (lE (.sub (.sub ax<|Y lU) aE) bA) [.aQ (.sub (.sub ax<|Y lU) aE) aZ],bh bA],aV 4<|aP xd [ax,aE],bB (gX be<|B 0)<|qzT [Y gU,Y k_],.expr<|aP n8 [.sub ax<|Y g8,be,aK (.sub (aP j0 []) aE) 1,aZ],.expr<|aP wW [.sub ax<|Y g8,.sub ax<|Y rG],bh bA]⟩
def Zj:Fn:=⟨3,[],2,[bY (.or [aX aE<|Y ye,aX aE<|Y EB]) [aV 3<|.comp ax (.bi .range [B 130]) (aa<|aX (bw (cH (eP aE<|qz (B 2) ax)<|B 2)<|cH (eP aN<|qz (B 2) ax)<|B 2)<|B 2) [0,2],bh<|aX (ek aZ<|.lst [])<|aX aE<|Y ye],aV 4<|.ite (aX ax aN) (B 0)<|.ite (kz ax aN) (B 1)<|.neg<|B 1,bh<|iV be<|.sub (.aA [(Y yy,qzT [B 0]),(Y Ey,qzT [.neg<|B 1,B 1]),(Y Bj,qzT [.neg<|B 1]),(Y EA,qzT [.neg<|B 1,B 0]),(Y Bk,qzT [B 1]),(Y Ez,qzT [B 0,B 1])]) aE]⟩
def abm:Fn:=⟨3,[],5,[aV 3<|aP jx [ax,aK aE 1],bY (lE aZ bA) [.dN (.tup [fH,iW,jJ,iC]) aN [bB (iV aZ<|.bi .range [aK (aK be 0) 0,bw (aK (aK be 0) 1)<|B 1]) ck]],bh bA]⟩
def abn:Fn:=⟨6,[],4,[.aQ (.tup [jJ,iC])<|qzT [bA,bA],bY (.and [lE aZ bA,aX (aK aZ 0)<|Y EC]) [.aQ (.tup [jJ,iC])<|qzT [aK aZ 1,aK aZ 2]],bY (.and [lE aZ bA,aX (aK aZ 0)<|Y E4]) [aV 8<|qz (B 2)<|fV (.ite (aX aN<|B 2) (B 32)<|B 128)<|aK aZ 2,aV 6<|gH (eP (aK aZ 1) dg) dg,.aQ (.tup [iC,iW])<|qzT [fV (bw dU dg)<|B 1,bw ck<|qzT [Y IE]]],bY (.and [lE aZ bA,aX (aK aZ 0)<|Y rW]) [aV 9<|aP s9 [ax,aK aZ 1,aK (aK aZ 2) 1],bB (eH gv bA)<|qzT [Y gU,Y k_],.aQ (.tup [jJ,iC,fH])<|qzT [aK gv 0,aK gv 0,.ite (aX (dH gv)<|B 2) (qzT [aK gv 1,aK gv 1]) be]],.expr<|.hO (.sub ax<|Y gV)<|qzT [aE,aN,dU,gq,be,ck],bh<|qzT [Y DW,Y k_]]⟩
def ZR:Fn:=⟨2,[],3,[.aQ (.tup [mx,iB])<|qzT [.sub (.sub ax<|Y k_cells) aE,dH<|.sub ax<|Y g8],bY (aX (aK aN 0)<|Y lh) [.aQ (.sub (.sub ax<|Y k_cells) aE)<|qzT [Y lh,bw (aK aN 1)<|B 1,bw (aK aN 2) aZ],bh bA],.aQ (.sub (.sub ax<|Y k_cells) aE)<|qzT [Y lY,aK aN 1,aK aN 2,bw (aK aN 3) aZ],aV 4<|.cmp .ge (bw (aK aN 3) aZ)<|aK aN 2,bh<|.ite (aX be<|aK aN 1) bA<|qzT [Y gU,Y k_]]⟩
def abo:Fn:=⟨2,[],0,[bY (aX (aK aE 0)<|Y gV) [.expr<|.hO (.sub ax<|Y gV)<|qzT [aK aE 1,aK aE 2,aK (.sub ax<|Y rG) 5],bh bA],bY (aX (aK aE 0)<|Y xm) [bY (eH (.sub (.sub ax<|Y lU)<|Y lj) bA) [.aQ (.sub (.sub ax<|Y lU)<|Y lT)<|B 64],bh bA],bY (aX (aK aE 0)<|Y ry) [bB (.and [aX (aK aE 1)<|Y iy,ek (aK (.sub ax<|Y rG) 1)<|B 6])<|qzT [Y gU,Y k_],bB (.and [iV (aK aE 1)<|qzT [Y vd,Y Af],ek (aX (aK aE 1)<|Y vd)<|aK (.sub ax<|Y rG) 0])<|qzT [Y gU,Y k_],.expr<|.hO (.sub ax<|Y og)<|qzT [aK aE 1,aK aE 2],bh<|qzT [Y k_drop,Y k_]],bY (aX (aK aE 0)<|Y m7) [.expr<|.hO (.sub ax<|Y gV)<|qzT [Y m7,aK aE 1],bh<|.ite (aX (aK aE 1)<|Y BJ) bA<|qzT [Y gU,Y k_]],bh<|qzT [Y Eb,.ite (aX (aK aE 0)<|Y xI) (Y NU)<|bw (Y C0)<|aK aE 0]]⟩
def abp:Fn:=⟨3,[],2,[bB (aX (aK aN 0)<|Y gW)<|aP DA [ax,aK aN 1,aK aN 2],bY (aX (aK aN 0)<|Y xw) [aV 3<|aP jx [ax,aK (aK aN 1) 1],bh<|.ite (.and [lE aZ bA,aP C5 [aZ,aK aN 2,aK (aK aN 3) 1]]) bA<|qzT [Y gU,Y k_]],bY (aX (aK aN 0)<|Y xH) [aV 4<|aP s9 [ax,aK aN 1,aK (aK aN 2) 1],bh<|.ite (eH be bA) (qzT [Y gU,Y k_])<|.ite (aX (aK be 0)<|Y m5) bA be],bB (aX (aK aN 0)<|Y tg)<|.ite (aX (aK (aK aN 1) 0)<|Y m5) bA<|aK aN 1,bB (aX (aK aN 0)<|Y oG)<|aP DB [ax,aK aN 1,aK aN 2,aK aN 3,aK aN 4,aK aN 5],bh<|.ite (.or [aX (aK aN 0)<|Y lh,aX (aK aN 0)<|Y lY]) (aP zy [ax,aE])<|aP Pk [ax,aN]]⟩
def ZS:Fn:=⟨2,[],2,[aV 2<|.lst [Y zv,Y zA,Y zB,Y Ag],bY ax [aV 2<|.lst [Y Ag,Y zH,Y zI,Y Au,Y zv]],aV 3<|.lst [Y Dq,Y zG,Y zG,Y zF],bY (aX aE<|B 6) [aV 3<|.lst [Y Dn,Y zF,Y C2,Y Dp,Y Dd,Y De,Y Dc]],bh<|bw (bw aN aZ)<|.lst [Y rj,Y lj,Y rf]]⟩
def C9:Fn:=⟨2,[],6,[aV 2<|.sub aE<|cH (aP c4 [ax])<|dH aE,.aQ (.tup [iB,fH,iW])<|qzT [aK (.sub (aP j0 []) aN) 1,cH (aP c4 [ax])<|B 5,aP c4 [ax]],aV 6<|cH (gH ck<|B 210306068529402873165736369884012333109)<|qz (B 256) aZ,aV 7<|.sub aE<|cH ck<|dH aE,bY (ek (aK (.sub (aP j0 []) gq) 1) aZ) [aV 7 aN],bB (aX be<|B 0)<|qzT [Y gW,aN,qzT [Y jF,mK (qzT [B 0,fV (qz (B 256) aZ)<|B 1]) ck 2]],bB (aX be<|B 1)<|qzT [Y gW,aN,qzT [Y jF,dU]],bB (aX be<|B 2)<|qzT [Y gW,aN,qzT [Y lr,gq]],bh<|qzT [Y gW,aN,qzT [mK (qzT [Y ve,Y yx,Y E3]) ck 3,qzT [Y lr,gq],dU]]]⟩
def aaz:Fn:=⟨3,[],2,[aV 3<|.sub (bw aN<|.lst [Y i9,Y pW,Y lT,Y jw])<|cH (aP c4 [ax])<|bw (dH aN)<|B 4,aV 4<|aP jx [aE,aZ],bh<|qzT [qzT [Y lr,aZ],.ite (eH be bA) (B 7) be]]⟩
def ZT:Fn:=⟨3,[],4,[.aQ (.tup [iB,fH])<|qzT [.kj [],.bi .max [B 0,fV aE<|cH (aP c4 [ax])<|B 5]],.dN iW aN [aV 6<|aP c4 [ax],.expr<|.hO aZ<|qzT [qzT [qzT [bw be<|cH dU<|B 2,bw (bw be<|cH dU<|B 2)<|cH (eP dU<|B 2)<|B 3]],ck,B 0,Y k_],aV 4<|bw (bw (bw be<|cH dU<|B 2)<|cH (eP dU<|B 2)<|B 3)<|B 1],bh<|.bi .tuple [aZ]]⟩
def N1:Fn:=⟨3,[],11,[aV 3<|mK (qzT [Y Tp,Y Tq,Y Hq,Y HG]) (aP c4 [ax]) 4,.aQ (.tup [fH,iW])<|qzT [cH (aP c4 [ax])<|B 4,aP c4 [ax]],.aQ (.tup [jJ,iC,oQ])<|qzT [mK (qzT [B 2,B 10]) ck 2,bA,bA],aV 9<|cH (gH ck<|B 210306068529402873165736369884012333109)<|qz (B 2)<|.ite (aX dU<|B 2) (B 32)<|B 128,bY (aX (cH (eP ck<|B 2)<|B 2)<|B 1) [aV 8<|qzT [cH (eP ck<|B 4)<|B 60000,bw (cH (eP ck<|B 4)<|B 60000)<|cH (eP ck<|B 8)<|B 5]],aV 10<|mK (qzT [qzT [],qzT [Y DX],qzT [Y Dg],qzT [Y DX,Y Dg]]) (eP ck<|B 16) 4,bB (.or [aX aZ<|Y Hq,aX aZ<|Y HG])<|qzT [Y oG,aZ,B 0,bA,dg,.ba 10],bY (aX be<|B 1) [aV 7<|qzT [Y EC,gv,bw gv<|cH (eP ck<|B 64)<|B 3]],bY (aX be<|B 2) [aV 7<|qzT [Y E4,gv,cH (eP ck<|B 64)<|.ite (aX dU<|B 2) (B 33)<|B 129]],bY (aX be<|B 3) [.aQ (.tup [.nm 11,.nm 12])<|aP uJ [ax,aE,aN],aV 13<|.lst [qzT [gv],qzT [gv,cH (eP ck<|B 4)<|B 60000]],aV 7<|qzT [Y rW,.ba 11,qzT [Y rW,aP w9 [ax,.ba 12,.ba 13]]]],bh<|qzT [Y oG,aZ,dU,gq,dg,.ba 10]]⟩
def YE:Fn:=⟨3,[],6,[aV 3<|cH (aP c4 [ax])<|B 14,bB (gX aZ<|B 5)<|aP C6 [ax,aN],bY (.or [aX aZ<|B 5,aX aZ<|B 6]) [.aQ (.tup [fH,iW])<|aP uJ [ax,aE,aN],bY (aX aZ<|B 5) [aV 6<|mK (qzT [Y yy,Y Ey,Y Bj,Y EA,Y Bk,Y Ez,Y ye,Y EB]) (aP c4 [ax]) 8,bh<|qzT [Y xw,be,dU,qzT [Y jF,.bi .max [B 0,fV (bw ck<|cH (aP c4 [ax])<|B 3)<|B 1]]]],aV 7<|.lst [qzT [Y m5,Y k_],qzT [Y Jv,Y wh],qzT [Y m5,Y k_]],bh<|qzT [Y xH,be,qzT [Y rW,aP w9 [ax,ck,gq]]]],aV 8<|aP c4 [ax],bB (aX aZ<|B 7)<|qzT [Y gV,mK (qzT [Y k_,Y R0,Y wh]) dg 3,mK (qzT [Y Tr,Y Ts]) (eP dg<|B 3) 2],bB (aX aZ<|B 8)<|qzT [Y xm],bY (aX aZ<|B 9) [bB (aX (cH dg<|B 3)<|B 0)<|qzT [Y lh,cH (eP dg<|B 3)<|B 9,cH (eP dg<|B 27)<|B 900],bh<|qzT [Y lY,aX (cH dg<|B 3)<|B 1,cH (eP dg<|B 3)<|B 120,cH (eP dg<|B 360)<|B 60]],bB (gX aZ<|B 12)<|aP CZ [ax,aE,aN],bB (aX aZ<|B 12)<|mK (.lst [qzT [Y ry,Y vd,B 3],qzT [Y ry,Y R1,B 1],qzT [Y ry,Y Af,B 4],qzT [Y ry,Y iy,B 0],qzT [Y tg,qzT [Y DW,Y k_]],qzT [Y tg,qzT [Y m5,Y k_]],qzT [Y tg,qzT [Y Tt,Y Wm]]]) dg 7,bh<|mK (.lst [qzT [Y gW,Y H5,qzT [Y jF,B 1]],qzT [Y m7,Y BJ],qzT [Y gW,Y pW,qzT [Y jF,B 1]],qzT [Y m7,Y jE],qzT [Y gW,Y lT,qzT [Y jF,B 1]],qzT [Y xI,Y Wn],qzT [Y gW,Y zV,qzT [Y jF,B 1]],qzT [Y Bl,Y wh],qzT [Y gW,Y Hk,qzT [Y lr,Y lj]]]) dg 9]⟩
def uH:Fn:=⟨3,[],8,[.aQ (.tup [iB,fH,iW])<|qzT [cH (aP c4 [ax])<|B 3,.and [aE,aX (cH (aP c4 [ax])<|B 6)<|B 5],aP c4 [ax]],aV 6<|bw (.ite (aX aN<|B 6) (B 20)<|B 8)<|mK (qzT [B 0,B 1,B 3,.neg<|B 3,B 6,B 2]) (aP c4 [ax]) 6,aV 7<|.ite aE (bw (B 20)<|gH (B 4) aZ)<|B 40,.aQ (.tup [oQ,BH])<|qzT [.kj [],cH ck<|B 65537],.dN (.nm 10) (.bi .range [bw gq dU]) [aV 9<|cH (bw (gH gv<|B 75)<|B 74)<|B 65537,.expr<|.hO dg<|bw (cH gv<|B 251)<|eP gv<|B 13107],.ifs aE [.aQ (.tup [.sub dg<|B 0,.sub dg<|B 2,.sub dg<|B 3,.sub dg<|B 6,.sub dg<|B 7])<|qzT [bw (B 69) aZ,B 0,bw gq dU,B 64,B 0],.aQ (.sub dg<|B 9) aN,bY be [.aQ (.tup [.sub dg<|B 6,.sub dg<|B 7])<|qzT [B 0,bw (B 1)<|cH ck<|B 200]]] [.aQ (.tup [.sub dg<|B 0,.sub dg<|B 4,.sub dg<|B 5,.sub dg<|B 6])<|qzT [bw (B 96)<|cH (aK dg 0)<|B 16,B 0,dU,aN]],bh<|qzT [dg,gq,be]]⟩
def aaA:Fn:=⟨2,[],0,[.expr<|.hO (bP gV) aE,bh<|qzT [Y DW,Y k_]]⟩
def ZU:Fn:=⟨2,[],0,[.expr<|.hO (bP gV)<|qzT [Y m7,aE],bh<|.ite (aX aE<|Y BJ) bA<|qzT [Y gU,Y k_]]⟩
def Di:Fn:=⟨2,[],11,[.aQ (.tup [mx,iB,fH,iW,jJ,iC])<|.sub ax<|Y rG,aV 8<|aP OE [],.dN BH (qzT [aP Oh [],aP Oi [],aP Oj [],aP Oc [],aP OF []]) [.dN (.nm 10) gv [.aQ (.sub dg<|.ba 10)<|.sub gv<|.ba 10]],aV 11<|aP fR [aP Dl [.bi .bytes [.sub ax<|Y g8],.ite aN (B 2048)<|B 34525],dg,gq,Y zW],.aQ (.tup [.sub (.attr (.attr (.ba 11) iQ) e8)<|Y fC,.sub (.attr (.attr (.ba 11) iQ) e8)<|Y pX])<|qzT [.sub aE<|Y fC,.sub aE<|Y pX],.aQ (.tup [.attr (.ba 11) uL,.attr (.ba 11) tz])<|qzT [aP N6 [],aP Oq []],.dN BH (qzT [aP OK [],aP OM [],aP ON [],aP Og []]) [.dN (.nm 12) gv [.aQ (.sub (.attr (.ba 11) tz)<|.ba 12)<|.sub gv<|.ba 12]],.aQ (.attr (.ba 11) uV)<|.aA [(Y oG,.dB Hw),(Y m7,.dB Hr)],.aQ (.attr (.ba 11) k_state)<|.sub (.sub ax<|Y lU)<|Y lT,bY (lE (.sub (.sub ax<|Y lU)<|Y lj) bA) [.aQ (.attr (.ba 11) l8)<|aP lx [B 5,qzT [B 2,B 6,B 1,B 2,B 3,B 4],qzT [B 2,B 6,B 3,B 4,B 1,B 2],B 0],.aQ (.attr (.attr (.ba 11) l8) fC)<|.sub (.sub ax<|Y lU)<|Y lj],bh<|.ba 11]⟩
def Hl:Fn:=⟨4,[],2,[aV 4<|.sub aE<|Y lU,.aQ (.tup [.sub aN<|Y fC,.sub aN<|Y pX])<|qzT [.sub be<|Y rj,.sub be<|Y rf],bB (.or [ek (.bi .bytes [.attr (bP iQ) k_data])<|.bi .bytes [.sub aE<|Y g8],ek (.attr (bP iQ) e8) aN,kz (dH<|.attr (bP iQ) qj)<|B 0])<|.bU<|.bool aq,bB (.or [ek (bP gV)<|.sub aE<|Y gV,ek (bP og)<|.sub aE<|Y og,ek (bP k_state)<|.sub be<|Y lT])<|.bU<|.bool aq,bB (ek (.ite (eH (bP l8) bA) bA<|.attr (bP l8) fC)<|.sub be<|Y lj)<|.bU<|.bool aq,bB (ek (.bi .sorted [.attr aZ k_cells])<|.bi .sorted [.sub aE<|Y k_cells])<|.bU<|.bool aq,.dN iW (.sub aE<|Y k_cells) [bB (ek (aP zr [.sub (.attr aZ k_cells) ck])<|.sub (.sub aE<|Y k_cells) ck)<|.bU<|.bool aq],bh<|.bU<|.bool ae]⟩
def aeE:Fn:=⟨4,[],0,[.aQ (.attr ax k_data)<|.bi .bytearray [aE],.aQ (.attr ax qj)<|.bi .bytearray [aZ],.aQ (.attr ax l7) aN,.aQ (.attr ax jK)<|.neg<|B 1,.aQ (.attr ax jE)<|.neg<|B 1,.aQ (.attr ax uT)<|B 0,.aQ (.attr ax e8)<|aP Dw []]⟩
def ahw:Fn:=⟨5,[.int 0,.str ahs],0,[.aQ (.attr ax iQ) aE,.aQ (.attr ax tQ) aZ,.aQ (.attr ax AW) be,.aQ (.attr ax l8) bA,.aQ (.attr ax k_state)<|B 1,.aQ (.attr ax xf)<|B 0,.aQ (.attr ax Av) bA,.aQ (.attr ax tI)<|.fq [],.aQ (.attr ax zX)<|.fq [],.aQ (.attr ax rp) aN,.aQ (.attr ax uL)<|.fq [],.aQ (.attr ax tz)<|.fq [],.aQ (.attr ax Bm)<|.fq [],.aQ (.attr ax uV)<|.fq [],.aQ (.attr ax Aw)<|Y DY,.aQ (.attr ax gV)<|.kj [],.aQ (.attr ax og)<|.kj [],.aQ (.attr ax k_steps) bA,.aQ (.attr ax Ax)<|.fq []]⟩
def acE:Fn:=⟨3,[.int 0,.int 0],0,[.aQ (.attr ax zU) aE,.aQ (.attr ax g8) aN]⟩
def ahx:Fn:=⟨4,[.int 0],0,[.aQ (.attr ax xl) aE,.aQ (.attr ax g8) aN,.aQ (.attr ax vh) aZ]⟩
def aku:Fn:=⟨4,[.str k_],0,[.aQ (.attr ax IF) aE,.aQ (.attr ax zx) aN,.aQ (.attr ax H6) aZ,.aQ (.attr ax k_cells)<|aP Dz [aN],.aQ (.attr ax Jw) bA,.aQ (.attr ax tI)<|.fq []]⟩
def akv:Fn:=⟨5,[],0,[.aQ (.attr ax IG) aE,.aQ (.attr ax n7) aN,.aQ (.attr ax nc) aZ,.aQ (.attr ax vc) be,.aQ (.attr ax Ea)<|B 0,.aQ (.attr ax I8)<|B 0,.aQ (.attr ax fC)<|B 0,.aQ (.attr ax uP)<|B 0,.aQ (.attr ax k_state)<|B 0,.aQ (.attr ax I9) bA,.aQ (.attr ax IH)<|B 0]⟩
def tR:Fn:=⟨1,[],20,[aV 0<|.eY ax ag<|aa<|B 63,aV 1<|.kj [ax,B 0,cH (.bi .sum [ax])<|B 65521],aV 2<|.fq [(Y fC,cH (aP c4 [aE])<|qz (B 2)<|B 32),(Y pX,cH (aP c4 [aE])<|qz (B 2)<|B 32),(Y Bh,B 0),(Y Bi,B 0),(Y zO,B 0),(Y zP,B 0),(Y zS,B 0),(Y zQ,B 1),(Y zR,B 1)],.aQ (.tup [iB,fH,iW])<|qzT [gX (cH (aP c4 [aE])<|B 3)<|B 2,aP c4 [aE],mK (qzT [B 6,B 17,B 6,B 17,B 47]) (aP c4 [aE]) 5],.aQ (.tup [jJ,iC,oQ])<|aP C7 [aE,aZ,ck],aV 9<|.and [aX ck<|B 17,aX (cH (aP c4 [aE])<|B 4)<|B 3],aV 10<|.fq [(Y rj,.sub aN<|Y fC),(Y rf,.sub aN<|Y pX),(Y pW,dH dU),(Y i9,ck),(Y jw,.ite aZ (B 2)<|B 10),(Y lT,mK (qzT [B 1,B 2,B 4,B 8]) be 4),(Y lj,.ite (aX (cH be<|B 3)<|B 0) bA<|cH (eP be<|B 3)<|qz (B 2)<|B 32)],aV 11<|.fq [(Y g8,dU),(Y lU,.ba 10),(Y gV,.kj []),(Y og,.kj []),(Y k_cells,.fq []),(Y rG,qzT [aZ,ck,gq,dg,gv,cH (aP c4 [aE])<|B 100000])],.expr<|aP wW [dU,.sub (.ba 11)<|Y rG],.aQ (.tup [.nm 12,.nm 13])<|qzT [aP Dh [.ba 11,aN],aP Df [aZ,ck]],.dN (.nm 14) (.bi .range [B 3]) [aV 15<|.bi .tuple [.comp (aP CX [aZ,aE,aN]) (.bi .range [bw (B 1)<|cH (aP c4 [aE])<|B 4]) ag [11,13,1]],.aQ (.tup [.nm 16,.nm 17,.nm 18])<|qzT [aP d8 [.ba 14,.ba 15],bA,bA],.aQ (.sub (.ba 11)<|Y k_cells) .vA,.dN (.nm 19) (.bi .range [dH<|.ba 15]) [bY (.or [aX (aK (.sub (.ba 15)<|.ba 19) 0)<|Y lh,aX (aK (.sub (.ba 15)<|.ba 19) 0)<|Y lY]) [.aQ (.sub (.sub (.ba 11)<|Y k_cells)<|.ba 19)<|.sub (.ba 15)<|.ba 19]],.dN (.nm 19) (.bi .range [dH<|.ba 15]) [bY (eH (.ba 17) bA) [aV 17<|aP xh [.ba 11,.ba 19,.sub (.ba 15)<|.ba 19]]],.tZ [aV 18<|aP zJ [.ba 12,.ba 16]] 20 18,bB (.or [ek (.ba 18)<|.ba 17,.not<|aP zu [.ba 12,.ba 11,aN,.ba 16]])<|.bU<|.bool aq],bh<|.bU<|.bool ae]⟩
def Vl:List (Nm×Nm):=[(j4,k_data),(j4,qj),(j4,l7),(j4,jK),(j4,jE),(j4,uT),(j4,e8),(fR,iQ),(fR,tQ),(fR,AW),(fR,l8),(fR,k_state),(fR,xf),(fR,Av),(fR,tI),(fR,zX),(fR,rp),(fR,uL),(fR,tz),(fR,Bm),(fR,uV),(fR,Aw),(fR,gV),(fR,og),(fR,k_steps),(fR,Ax),(th,zU),(th,g8),(rF,xl),(rF,g8),(rF,vh),(d8,IF),(d8,zx),(d8,H6),(d8,k_cells),(d8,Jw),(d8,tI),(lx,IG),(lx,n7),(lx,nc),(lx,vc),(lx,Ea),(lx,I8),(lx,fC),(lx,uP),(lx,k_state),(lx,I9),(lx,IH)]
def Vm:List (Nm×Gl):=[(zt,.fn YI),(OE,.fn aag),(Oh,.fn ZE),(Oi,.fn ZF),(Oj,.fn ZG),(Oc,.fn Zb),(OF,.fn aah),(Pf,.fn aa7),(Od,.fn Zc),(OH,.fn aai),(Oe,.fn Zd),(PZ,.fn acs),(Ph,.fn aa8),(n5,.fn aaj),(ri,.fn aak),(zT,.fn acu),(DS,.fn aew),(vf,.fn akr),(Aq,.fn aht),(Hv,.fn aal),(P0,.fn acv),(HE,.fn<|fnAt HE),(D9,.fn ahu),(Dw,.fn aa9),(Ew,.fn aks),(Dl,.fn aam),(zC,.fn aan),(DF,.fn acw),(vg,.fn akt),(Om,.fn ZH),(sZ,.fn aba),(OI,.fn aao),(lW,.fn aex),(s8,.fn zK),(pY,.fn abb),(tf,.fn acx),(wX,.fn ZI),(DG,.fn acy),(zJ,.fn Pl),(uI,.fn aap),(Dx,.fn abc),(H3,.fn acz),(DT,.fn aey),(gh,.fn abd),(rq,.fn aez),(OJ,.fn<|fnAt OJ),(uU,.fn ahv),(HF,.fn<|fnAt HF),(Dy,.fn abe),(Oo,.fn ZJ),(Ho,.fn<|fnAt Ho),(Pj,.fn abf),(C1,.fn YT),(Dm,.fn aaq),(DH,.fn acA),(N6,.fn YU),(xg,.fn abg),(wY,.fn ZK),(xk,.fn acB),(Oq,.fn ZL),(N7,.fn<|fnAt N7),(P4,.fn<|fnAt P4),(Hm,.fn<|fnAt Hm),(Ot,.fn ZM),(Hp,.fn<|fnAt Hp),(zD,.fn aar),(zr,.fn YD),(Dz,.fn abh),(P5,.fn acC),(wV,.fn Ze),(DU,.fn aeA),(k9,.fn abi),(zE,.fn<|fnAt zE),(Og,.fn Zf),(xo,.fn aeB),(xc,.fn aas),(wZ,.fn ZN),(OK,.fn aat),(nZ,.fn Zg),(OL,.fn aau),(tj,.fn aeC),(OM,.fn aav),(H4,.fn acD),(Ou,.fn ZO),(xq,.fn aeD),(pZ,.fn abj),(ON,.fn aaw),(c4,.fn aax),(sY,.fn ZP),(n8,.fn abk),(wW,.fn C8),(j0,.fn Zh),(xd,.fn aay),(jx,.fn ZQ),(C4,.fn Zi),(DA,.fn abl),(C5,.fn Zj),(s9,.fn abm),(DB,.fn abn),(zy,.fn ZR),(Pk,.fn abo),(xh,.fn abp),(Df,.fn ZS),(C6,.fn C9),(uJ,.fn aaz),(w9,.fn ZT),(CZ,.fn N1),(CX,.fn YE),(C7,.fn uH),(Hw,.fn aaA),(Hr,.fn ZU),(Dh,.fn Di),(zu,.fn Hl),(j4,.cls aeE),(fR,.cls ahw),(th,.cls acE),(rF,.cls ahx),(d8,.cls aku),(lx,.cls akv)]
noncomputable def yf(x:Nm):List (Nm×Gl)->Option Gl
 |[]=>ag
 |(y,g)::r=>if y=x then aa g else yf x r
theorem akw{x y:Nm}{g:Gl}{r:List (Nm×Gl)}:yf x ((y,g)::r)=if y=x then aa g else yf x r:=rfl
def bN(x:Nm):Option Gl:=yf x Vm
def aR(c x:Nm):Bool:=Vl.contains (c,x)
noncomputable def Wp:Prop:=∀xs:List Int,xs.length<=63->(∀i∈xs,i.natAbs.log2<1048577)->∃m,hH aR (eW aR bN 20) tR [.lst<|xs.map .int] []=.ok (.bool ae) m
end
theorem ahy:oP.map (λp=>(p.1,Gl.fn<|lD mI me aq p.2.1 p.2.2.1 p.2.2.2))++mu.map (λp=>(p.1,Gl.cls<|lD mI me aq p.2.1 p.2.2.1 p.2.2.2))=Vm:=by kernel_rfl
theorem H7{x:Nm}{f:Nm×fY->Gl}{r:List (Nm×Gl)}:∀l:List (Nm×fY),yf x (l.map (λp=>(p.1,f p))++r)=match l.find? (·.1==x) with|some p=>aa (f p)|none=>yf x r
 |[]=>rfl|p::l=>by
  rw[iN,zb,akw ..,Cw];by_cases c:p.1=x
  ·rw[aC c,bO.mpr c]
  ·rw[aB c,beq_eq_false_iff_ne.mpr c,H7 l]
theorem akx:BC=bN:=by funext x;unfold bN BC;rw[<-ahy,H7 ..];induction oP.find? (·.1==x) using aO with|some p=>rfl|none=>have:=H7 (x:=x) (f:=λp=>Gl.cls<|lD mI me aq p.2.1 p.2.2.1 p.2.2.2) (r:=[]) mu;rw[gC] at this;dsimp only;rw[this];induction mu.find? (·.1==x) using aO<;>rfl
theorem amD:B7=aR:=by
 have:qQ=Vl:=by kernel_rfl
 funext c x;unfold B7 aR;rw[this]
theorem aky:FH=tR:=by kernel_rfl
theorem apN(h:Wp):PL:=by intro B E J;refine bu (h B E J) λm M=>?_;exact⟨m,by rw[amD,akx,aky];exact M⟩
abbrev YV:=ak 0x6e6f69746365726964207463
abbrev YJ:=ak 0x6e6f6974617269707865207463
abbrev ZV:=ak 0x6f746f7270336c207463
abbrev Yl:=ak 0x726464616420367069206c616e696769726f207463
abbrev Ym:=ak 0x726464617320367069206c616e696769726f207463
abbrev Yq:=ak 0x7264646164207069206c616e696769726f207463
abbrev Yr:=ak 0x7264646173207069206c616e696769726f207463
abbrev Yn:=ak 0x7473642d6f746f7270206c616e696769726f207463
abbrev Yo:=ak 0x6372732d6f746f7270206c616e696769726f207463
abbrev Zk:=ak 0x6c6f636f746f7270207463
abbrev Yt:=ak 0x72646461642036706920796c706572207463
abbrev Yu:=ak 0x72646461732036706920796c706572207463
abbrev Yw:=ak 0x726464616420706920796c706572207463
abbrev Yx:=ak 0x726464617320706920796c706572207463
abbrev CW:=ak 0x7473642d6f746f727020796c706572207463
abbrev Yv:=ak 0x6372732d6f746f727020796c706572207463
abbrev Zl:=ak 0x737574617473207463
abbrev acF:=ak 0x656e6f7a207463
abbrev abq:=ak 0x7063736420367069
abbrev acG:=ak 0x6e636520367069
abbrev ZW:=ak 0x6874676e656c20367069
abbrev Zm:=ak 0x7264687478656e20367069
abbrev Zn:=ak 0x6e6f697372657620367069
abbrev Zo:=ak 0x6d75736b63656863207069
abbrev aeF:=ak 0x6e6365207069
abbrev Zp:=ak 0x66666f2d67617266207069
abbrev YW:=ak 0x6874676e656c726468207069
abbrev aaB:=ak 0x6874676e656c207069
abbrev Zq:=ak 0x6c6f636f746f7270207069
abbrev ZX:=ak 0x6e6f6973726576207069
abbrev abr:=ak 0x666969206174656d
abbrev YX:=ak 0x656d616e666969206174656d
abbrev YY:=ak 0x65707974666969206174656d
abbrev abt:=ak 0x66696f206174656d
abbrev YZ:=ak 0x656d616e66696f206174656d
abbrev Y0:=ak 0x6570797466696f206174656d
abbrev Y1:=ak 0x65707974746b70206174656d
abbrev Y2:=ak 0x6d75736b6365686320706374
abbrev abu:=ak 0x66666f6420706374
abbrev Y3:=ak 0x646576726573657220706374
abbrev Y4:=ak 0x6d75736b6365686320706475
abbrev ZY:=ak 0x6874676e656c20706475
def g4:Lb:=[(ZX,(.tup [(.str du),(.str cz),(.int 4),(.str cb),(.tup [(.str kA),(.str fA),(.int 0)])])),(YW,(.tup [(.str du),(.str cz),(.int 4),(.str cb),(.tup [(.str kA),(.str fA),(.int 4)])])),(H5,(.tup [(.str du),(.str xG),(.int 6),(.str cb),(.tup [(.str kA),(.str fA),(.int 8)])])),(aeF,(.tup [(.str du),(.str yd),(.int 2),(.str cb),(.tup [(.str kA),(.str fA),(.int 14)])])),(aaB,(.tup [(.str du),(.str cz),(.int 16),(.str cb),(.tup [(.str kA),(.str fA),(.int 16)])])),(Au,(.tup [(.str du),(.str cz),(.int 16),(.str cb),(.tup [(.str kA),(.str fA),(.int 32)])])),(Zp,(.tup [(.str du),(.str cz),(.int 16),(.str cb),(.tup [(.str kA),(.str fA),(.int 48)])])),(Ag,(.tup [(.str du),(.str cz),(.int 8),(.str cb),(.tup [(.str kA),(.str fA),(.int 64)])])),(Zq,(.tup [(.str du),(.str sX),(.int 8),(.str cb),(.tup [(.str kA),(.str fA),(.int 72)])])),(Zo,(.tup [(.str du),(.str cz),(.int 16),(.str cb),(.tup [(.str kA),(.str fA),(.int 80)])])),(zH,(.tup [(.str du),(.str mY),(.int 32),(.str cb),(.tup [(.str kA),(.str fA),(.int 96)])])),(zI,(.tup [(.str du),(.str mY),(.int 32),(.str cb),(.tup [(.str kA),(.str fA),(.int 128)])]))]
def g6:Lb:=[(Zn,(.tup [(.str du),(.str cz),(.int 4),(.str cb),(.tup [(.str lA),(.str fA),(.int 0)])])),(abq,(.tup [(.str du),(.str xG),(.int 6),(.str cb),(.tup [(.str lA),(.str fA),(.int 4)])])),(acG,(.tup [(.str du),(.str yd),(.int 2),(.str cb),(.tup [(.str lA),(.str fA),(.int 10)])])),(Hk,(.tup [(.str du),(.str cz),(.int 20),(.str cb),(.tup [(.str lA),(.str fA),(.int 12)])])),(ZW,(.tup [(.str du),(.str cz),(.int 16),(.str cb),(.tup [(.str lA),(.str fA),(.int 32)])])),(Zm,(.tup [(.str du),(.str sX),(.int 8),(.str cb),(.tup [(.str lA),(.str fA),(.int 48)])])),(zv,(.tup [(.str du),(.str cz),(.int 8),(.str cb),(.tup [(.str lA),(.str fA),(.int 56)])])),(zA,(.tup [(.str du),(.str mZ),(.int 128),(.str cb),(.tup [(.str lA),(.str fA),(.int 64)])])),(zB,(.tup [(.str du),(.str mZ),(.int 128),(.str cb),(.tup [(.str lA),(.str fA),(.int 192)])]))]
def gt:Lb:=[(Dn,(.tup [(.str du),(.str iP),(.int 16),(.str cb),(.tup [(.str iy),(.str iw),(.int 0)])])),(zF,(.tup [(.str du),(.str iP),(.int 16),(.str cb),(.tup [(.str iy),(.str iw),(.int 16)])])),(C2,(.tup [(.str du),(.str cz),(.int 32),(.str cb),(.tup [(.str iy),(.str iw),(.int 32)])])),(Dc,(.tup [(.str du),(.str cz),(.int 32),(.str cb),(.tup [(.str iy),(.str iw),(.int 64)])])),(abu,(.tup [(.str du),(.str cz),(.int 4),(.str cb),(.tup [(.str iy),(.str iw),(.int 96)])])),(Y3,(.tup [(.str du),(.str cz),(.int 4),(.str cb),(.tup [(.str iy),(.str iw),(.int 100)])])),(Dp,(.tup [(.str du),(.str HD),(.int 8),(.str cb),(.tup [(.str iy),(.str iw),(.int 104)])])),(Dd,(.tup [(.str du),(.str cz),(.int 16),(.str cb),(.tup [(.str iy),(.str iw),(.int 112)])])),(Y2,(.tup [(.str du),(.str cz),(.int 16),(.str cb),(.tup [(.str iy),(.str iw),(.int 128)])])),(De,(.tup [(.str du),(.str cz),(.int 16),(.str cb),(.tup [(.str iy),(.str iw),(.int 144)])]))]
def gu:Lb:=[(Dq,(.tup [(.str du),(.str iP),(.int 16),(.str cb),(.tup [(.str tP),(.str iw),(.int 0)])])),(zG,(.tup [(.str du),(.str iP),(.int 16),(.str cb),(.tup [(.str tP),(.str iw),(.int 16)])])),(ZY,(.tup [(.str du),(.str cz),(.int 16),(.str cb),(.tup [(.str tP),(.str iw),(.int 32)])])),(Y4,(.tup [(.str du),(.str cz),(.int 16),(.str cb),(.tup [(.str tP),(.str iw),(.int 48)])]))]
def gm:Lb:=[(pW,(.tup [(.str e8),(.str cz),(.int 32),(.str fS),(.str uO)])),(N0,(.tup [(.str e8),(.str Ol),(.int 16),(.str cb),(.str xe)])),(jw,(.tup [(.str e8),(.str Dv),(.int 8),(.str cb),(.str H0)])),(i9,(.tup [(.str e8),(.str sX),(.int 8),(.str cb),(.str H2)])),(rj,(.tup [(.str e8),(.str fC),(.int 32),(.str fS),(.str fC)])),(rf,(.tup [(.str e8),(.str cz),(.int 32),(.str fS),(.str pX)])),(abr,(.tup [(.str e8),(.str C3),(.int 32),(.str fS),(.str Bh)])),(abt,(.tup [(.str e8),(.str C3),(.int 32),(.str fS),(.str Bi)])),(YX,(.tup [(.str e8),(.str DR),(.int 128),(.str cb),(.str zO)])),(YZ,(.tup [(.str e8),(.str DR),(.int 128),(.str cb),(.str zP)])),(YY,(.tup [(.str e8),(.str cz),(.int 16),(.str fS),(.str zQ)])),(Y0,(.tup [(.str e8),(.str cz),(.int 16),(.str fS),(.str zR)])),(Y1,(.tup [(.str e8),(.str O8),(.int 8),(.str cb),(.str zS)]))]
def gc:Lb:=[(lT,(.tup [(.str fu),(.str O9),(.int 32),(.str fS),(.tup [(.str k_state),(.str k_)])])),(Zl,(.tup [(.str fu),(.str OG),(.int 32),(.str fS),(.tup [(.str uP),(.str k_)])])),(YV,(.tup [(.str fu),(.str QR),(.int 8),(.str cb),(.tup [(.str Hu),(.str k_)])])),(lj,(.tup [(.str fu),(.str fC),(.int 32),(.str fS),(.tup [(.str fC),(.str k_)])])),(acF,(.tup [(.str fu),(.str cz),(.int 16),(.str fS),(.tup [(.str vc),(.str k_)])])),(YJ,(.tup [(.str fu),(.str To),(.int 32),(.str fS),(.tup [(.str Hn),(.str k_)])])),(ZV,(.tup [(.str fu),(.str Dv),(.int 8),(.str cb),(.tup [(.str PY),(.str k_)])])),(Zk,(.tup [(.str fu),(.str sX),(.int 8),(.str cb),(.tup [(.str xe),(.str k_)])])),(Yr,(.tup [(.str fu),(.str mY),(.int 32),(.str cb),(.tup [(.str IA),(.str n7)])])),(Yq,(.tup [(.str fu),(.str mY),(.int 32),(.str cb),(.tup [(.str IB),(.str n7)])])),(Ym,(.tup [(.str fu),(.str mZ),(.int 128),(.str cb),(.tup [(.str IC),(.str n7)])])),(Yl,(.tup [(.str fu),(.str mZ),(.int 128),(.str cb),(.tup [(.str ID),(.str n7)])])),(Yo,(.tup [(.str fu),(.str iP),(.int 16),(.str cb),(.tup [(.str Dj),(.str n7)])])),(Yn,(.tup [(.str fu),(.str iP),(.int 16),(.str cb),(.tup [(.str Dk),(.str n7)])])),(Yx,(.tup [(.str fu),(.str mY),(.int 32),(.str cb),(.tup [(.str IA),(.str nc)])])),(Yw,(.tup [(.str fu),(.str mY),(.int 32),(.str cb),(.tup [(.str IB),(.str nc)])])),(Yu,(.tup [(.str fu),(.str mZ),(.int 128),(.str cb),(.tup [(.str IC),(.str nc)])])),(Yt,(.tup [(.str fu),(.str mZ),(.int 128),(.str cb),(.tup [(.str ID),(.str nc)])])),(Yv,(.tup [(.str fu),(.str iP),(.int 16),(.str cb),(.tup [(.str Dj),(.str nc)])])),(CW,(.tup [(.str fu),(.str iP),(.int 16),(.str cb),(.tup [(.str Dk),(.str nc)])]))]
def tA:Lb:=g4++(g6++(gt++(gu++(gm++gc))))
def Tu:Lb:=[(xw,(.fn xg)),(tg,(.fn wY)),(xH,(.fn xk)),(gV,(.fn xo)),(ry,(.fn xc)),(xm,(.fn wZ)),(gW,(.fn tj)),(oG,(.fn xq)),(m7,(.fn pZ)),(xI,(.fn pZ)),(lh,(.fn k9)),(lY,(.fn k9)),(As,(.fn k9)),(DV,(.fn zE))]
set_option genCtorIdx true in
inductive Pr where|dY|e6|gz
noncomputable def Pr.num:Pr->Int:=λp=>match p with|.dY=>6|.e6=>17|.gz=>47
noncomputable abbrev bH(l:z0):mV:=l.map λ(b:Nat)=>.int b
structure Hd where
 ay:Bool
 bG:Pr
 aG:Nat
 bx:Bool
 bare:Bool
 now:Nat
 len:Nat
 place:Nat
structure Ab where
 aL:List Nat
 cB:Nat
 pri:Nat
 st:Nat
 ct:Option Nat
 log:List V
 rep:List V
structure Sg where
 xs:List V
 at_:Nat
 sum:Nat
 mL:Nat
 mM:Nat
 h:Hd
 L:Ab
 P:Ab
 kc:Nat
noncomputable abbrev nV(k:Nat):V:=.int k
noncomputable def oV(o:Option Nat):V:=match o with|none=>.none|some k=>.int k
def Hd.about(h:Hd):V:=.tup [.bool h.ay,.int h.bG.num,nV h.aG,.bool h.bx,.bool h.bare,nV h.now]
noncomputable def Hd.off(h:Hd):Int:=cond h.bx (-1) h.aG
def eO(a b:V):O:=.aA [(fC,a),(pX,b),(Bh,.int 0),(Bi,.int 0),(zO,.int 0),(zP,.int 0),(zS,.int 0),(zQ,.int 1),(zR,.int 1)]
def amE(k:Nat):O:=.aA [(IG,.int 5),(n7,.tup [.int 2,.int 6,.int 1,.int 2,.int 3,.int 4]),(nc,.tup [.int 2,.int 6,.int 3,.int 4,.int 1,.int 2]),(vc,.int 0),(Ea,.int 0),(I8,.int 0),(fC,nV k),(uP,.int 0),(k_state,.int 0),(I9,.none),(IH,.int 0)]
def rX(h:Hd)(a:Ab):O:=.aA [(rj,nV a.cB),(rf,nV a.pri),(pW,nV h.len),(i9,.int h.bG.num),(jw,.int<|cond h.ay 2 10),(lT,nV a.st),(lj,oV a.ct)]
def tS(h:Hd)(kc:Nat):O:=.aA [(g8,.ref 2),(lU,.ref 3),(gV,.ref 4),(og,.ref 5),(k_cells,.ref kc),(rG,h.about)]
def yg(h:Hd):O:=.aA [(k_data,.ref 15),(qj,.ref 16),(l7,.int<|cond h.ay 2048 34525),(jK,.int h.bG.num),(jE,.int h.off),(uT,nV h.place),(e8,.ref 17)]
def amF(o:Option Nat):V:=match o with|none=>.none|some _=>.inst lx 29
def anR(h:Hd)(a:Ab):O:=.aA [(iQ,.inst j4 14),(tQ,nV h.now),(AW,.str zW),(l8,amF a.ct),(k_state,nV a.st),(xf,.int 0),(Av,.none),(tI,.ref 19),(zX,.ref 20),(rp,.ref 8),(uL,.aA [(du,.fn C1),(e8,.fn Dm),(fu,.fn DH)]),(tz,.ref 28),(Bm,.ref 23),(uV,.aA [(oG,.fn Hw),(m7,.fn Hr)]),(Aw,.str DY),(gV,.ref 25),(og,.ref 26),(k_steps,.none),(Ax,.ref 27)]
def M(σ:Sg)(g:J):J:=
 .lst [.lst σ.xs,nV σ.at_,nV σ.sum]::
 eO (nV σ.mL) (nV σ.mM)::
 .lst (bH σ.L.aL)::
 rX σ.h σ.L::
 .lst σ.L.log::
 .lst σ.L.rep::
 .aA []::
 tS σ.h σ.kc::
 .aA tA::.aA g6::.aA gt::.aA gu::.aA gm::.aA gc::
 yg σ.h::
 .bar σ.P.aL::.bar []::
 eO (nV σ.P.cB) (nV σ.P.pri)::
 anR σ.h σ.P::
 .aA []::.aA []::.aA []::.aA []::.aA []::.aA []::
 .lst σ.P.log::.lst σ.P.rep::.aA []::
 .aA Tu::(match σ.P.ct with|none=>g|some k=>amE k::g)
abbrev bq(n:Nat)(x:Nm)(l:mV)(m:J):R V:=eW aR bN n x l m
theorem enter(a:List Nm)(h:kF aR bN (λy=>a.contains y) n x l m K):K (bq n x l m):=(rV aR bN _ n x l m K).mp h
theorem enterQ(a:List Nm)(h:kF aR bN (λy=>a.contains y) n x l m λr=>r=q):bq n x l m=q:=enter a (K:=λr=>r=q) h
theorem aM{K:KR}(h:r=a)(k:K a):∀x,r=x->K x:=λx e=>rws (h.symm.trans e) k
theorem lp(a b:Nat):GN (a:Int) (b:Int)=((a&&&b:Nat):Int):=by rw[decide_eq_true<|gg a,decide_eq_true<|gg b];rfl
theorem Ay(a b:Nat):GO (a:Int) (b:Int)=((a|||b:Nat):Int):=by have B:∀x:Nat,(NJ<|NJ (x:Int)).toNat=x:=λx=>(aw uF (show-(-(x:Int)-1)-1=x by rw[Int.neg_sub ..,Int.sub_neg ..,Int.add_comm ..,Int.add_sub_cancel ..])).trans<|G4 x;have hn:∀x:Nat,¬0<=NJ (x:Int):=λx=>Int.not_le.mpr<|Int.sub_one_lt_of_le<|Int.neg_nonpos_of_nonneg<|gg x;unfold GO GN;rw[decide_eq_false<|hn a,decide_eq_false<|hn b];dsimp only;rw[B ..,B ..];unfold NJ;lia
theorem QT(a b:Nat):MB (a:Int) (b:Int)=(((a|||b)-(a&&&b):Nat):Int):=by unfold MB;rw[Ay ..,lp ..];have:a&&&b<=a|||b:=au Nat.and_le_left Nat.left_le_or;exact l9 this
theorem Tv(h:a.natAbs<2^k)(hk:k<=4000000):lB a=ae:=by
 refine decide_eq_true ?_;by_cases c:a.natAbs=0
 ·rw[c];decide
 ·exact cL ((Nat.log2_lt c).mpr h) hk
theorem aJ(h:o=aa u)(k:K (.ok u m)):oK o m K:=by subst h;exact k
theorem fj(h:o=aa l)(k:f l):BG o K f:=by subst h;unfold BG;rw[Eu ..];exact k
theorem Ah(h:o=aa l)(k:f l):yc o K f:=by subst h;unfold yc;rw[Eu ..];exact k
theorem dQ(h:o=aa m)(k:K (.ok e m)):eK o e K:=by subst h;exact k
theorem rH{a b:Nat}(h:a<2^4000000)(hb:b<=1024):iz .shl (.int a) (.int b)=aa (.int ((a*2^b:Nat):Int)):=by refine(?_:(if lB a/\0<=(b:Int)/\(b:Int)<=1024 then aa ((a:Int)*2^(b:Int).toNat) else ag).map V.int=_);rw[aC (cv (Tv (k:=4000000) (by rwa [NK ..])<|dR _) (gg b)<|Int.ofNat_le.mpr hb)];simp
theorem R2(hb:b<256):(a*2^8)|||b=a*256+b:=by rw[zl ..,<-Nat.two_pow_add_eq_or_of_lt (i:=8) hb ..,zl ..]
theorem E5(h:i+(r+1)=n):i<n:=rws h<|G3<|qY r
theorem Uq{α:Type}{l:List α}(h:i+(r+1)=l.length):l[l.length-(r+1)]?=aa (l[i]'(E5 h)):=by rw[show l.length-(r+1)=i from rws h (Nat.add_sub_cancel ..),cT<|E5 h]
theorem Ur(h:i+(r+1)=n):i+1+r=n:=(Ny i r).trans h
theorem Tw(h:f l):wg (aa l) l.length K f:=by unfold wg;dsimp only;rw[aC rfl];exact h
theorem QU(h:f l):vr (aa l) l.length K f:=by unfold vr;dsimp only;rw[aC rfl];exact h
theorem akz(e:o=aa v)(h:f v):Cb o K f:=by rw[e];exact h
theorem aeG(e:o=aa v)(h:f v):Bf o K f:=by rw[e];exact h
theorem P6{aQ:Env->V->J->KE->Prop}(I:Nat->Env->J->Prop)(hl:∀i e m,I i e m->gj m a kdx=aa l)
  (step:∀(i:Nat)(v:V)(e:Env)(m),l[i]?=aa v->I i e m->∀k,(∀e m,I (i+1) e m->k e m)->aQ e v m (uv K λe m=>body e m<|uw K k))
  (done:∀e m,I l.length e m->K (.nx e m)):∀(r i)(e)(m),i+r=l.length->I i e m->kFor aQ body a kdx l.length K r e m:=by
 intro r;induction r with
 |zero=>
  intro i e m (B:i=_) h;refine(?_:wg (gj m a kdx) l.length K λZ=>K<|.nx e m);rw[hl i e m h];subst B;exact Tw<|done e m h
 |succ r E=>
  intro i e m B h;refine(?_:wg (gj m a kdx) l.length K λM=>Cb M[l.length-(r+1)]? K λv=>aQ e v m (uv K λe m=>body e m (uw K λe m=>kFor aQ body a kdx l.length K r e m)));rw[hl i e m h];exact Tw (akz (Uq B) (step i _ e m (cT<|E5 B) h _ λe m h=>E (i+1) e m (Ur B) h))
theorem apI(hl:∀m,gj m a kdx=aa l)(I:Nat->Env->J->Prop)
  (step:∀(i:Nat)(v:V)(e:Env)(m),l[i]?=aa v->I i e m->∀k,(∀e m,I (i+1) e m->k e m)->aQ e v m (uv K λe m=>body e m<|uw K k))
  (done:∀e m,I l.length e m->K (.nx e m)):∀(r i)(e)(m),i+r=l.length->I i e m->kFor aQ body a kdx l.length K r e m:=P6 I (λZ Z m Z=>hl m) step done
theorem II{τ:Type}(E:Nat->τ->Env)(S:Nat->τ->J)(hl:∀i x,gj (S i x) a kdx=aa l)(I:Nat->τ->Prop)
  (step:∀(i)(v)(x),l[i]?=aa v->I i x->∀k,(∀y,I (i+1) y->k (E (i+1) y) (S (i+1) y))->aQ (E i x) v (S i x) (uv K λe m=>body e m<|uw K k))
  (done:∀x,I l.length x->K (.nx (E l.length x)<|S l.length x))(x:τ)(b:I 0 x)(he:e=E 0 x)(hm:m=S 0 x):kFor aQ body a kdx l.length K l.length e m:=
 P6 (λi e m=>∃x,I i x/\e=E i x/\m=S i x) (λi e m h=>h.elim λx h=>rwl h.2.2<|hl i x) (λi v e m B h k M=>h.elim λx h=>h.2.1▸rwl h.2.2 (step i v x B h.1 k λy O=>M _ _<|cu y O rfl rfl)) (λe m h=>h.elim λx h=>h.2.1▸rwl h.2.2 (done x h.1)) _ 0 _ _ (fQ _) (cu x b he hm)
theorem j6{τ:Type}(hl:∀m,gj m a kdx=aa l)(E:Nat->τ->Env)(S:Nat->τ->J)(I:Nat->τ->Prop)
  (step:∀(i)(v)(x),l[i]?=aa v->I i x->∀k,(∀y,I (i+1) y->k (E (i+1) y) (S (i+1) y))->aQ (E i x) v (S i x) (uv K λe m=>body e m<|uw K k))
  (done:∀x,I l.length x->K (.nx (E l.length x)<|S l.length x))(x:τ)(b:I 0 x)(he:e=E 0 x)(hm:m=S 0 x):kFor aQ body a kdx l.length K l.length e m:=II E S (λZ Z=>hl _) I step done x b he hm
theorem Wq{K:Env->J->Prop}(h:e=a)(k:K a m):K e m:=rwl h k
theorem Ms{K:Env->J->Prop}(h:m=m')(k:K e m'):K e m:=rwl h k
theorem P7{cond b:Env->KK}(I:Nat->mV->J->Prop)(hl:∀i a m,I i a m->gj m c kdx=aa l)
  (step:∀(i:Nat)(v:V)(acc:mV)(m:J),l[i]?=aa v->I i acc m->∀k:mV->J->Prop,(∀a m,I (i+1) a m->k a m)->cond (.val v::fr) m (Bg (λm=>b (.val v::fr) m (ud (λu m=>k (acc++[u]) m) K)) (λm=>k acc m) K))
  (done:∀acc m,I l.length acc m->K (.ok (.lst acc) m)):∀(r i:Nat)(acc:mV)(m:J),i+r=l.length->I i acc m->j9 cond b fr c kdx l.length K r acc m:=by
 intro r;induction r with
 |zero=>
  intro i acc m (B:i=_) h;refine(?_:vr (gj m c kdx) l.length K λZ=>K<|.ok (.lst acc) m);rw[hl i acc m h];subst B;exact QU<|done acc m h
 |succ r E=>
  intro i acc m B h;refine aj5 ?_;rw[hl i acc m h];exact QU (aeG (Uq B) (step i _ acc m (cT<|E5 B) h (λacc M=>j9 cond b fr c kdx l.length K r acc M) λa m h=>E (i+1) a m (Ur B) h))
theorem acH{cond a:Env->KK}(hl:∀m,gj m b kdx=aa l)(hc:∀v m (K:KR),K (.ok (.bool ae) m)->cond (.val v::fr) m K)(I:Nat->mV->J->Prop)
  (step:∀(i:Nat)(v:V)(acc:mV)(m),l[i]?=aa v->I i acc m->∀K,(∀u m,I (i+1) (acc++[u]) m->K (.ok u m))->a (.val v::fr) m K)
  (done:∀acc m,I l.length acc m->K (.ok (.lst acc) m)):∀(r i)(acc)(m),i+r=l.length->I i acc m->j9 cond a fr b kdx l.length K r acc m:=
 P7 I (λZ Z m Z=>hl m) (λi v acc m e h k B=>hc v m _ (show a _ _ _ from step i v acc m e h _ λu m E=>B _ _ E)) done
theorem HH{cond c:Env->KK}(hi:ei m b=aa l)(I:Nat->mV->Prop)
  (step:∀(i:Nat)(v:V)(acc:mV),l[i]?=aa v->I i acc->∀k:mV->J->Prop,(∀a,I (i+1) a->k a m)->cond (.val v::fr) m (Bg (λm=>c (.val v::fr) m (ud (λu m=>k (acc++[u]) m) K)) (λm=>k acc m) K))
  (done:∀acc,I l.length acc->K (.ok (.lst acc) m)):∀(r i:Nat)(acc:mV),i+r=l.length->I i acc->j9 cond c fr b (d9 m b) l.length K r acc m:=
 λr i acc E h=>P7 (λi a B=>B=m/\I i a) (λZ Z Z h=>(aw (λq=>gj q b<|d9 m b) h.1).trans<|(aC rfl).trans hi) (λi v acc B e h k M=>rwl h.1 (step i v acc e h.2 k λa O=>M a m ⟨rfl,O⟩)) (λacc B h=>rwl h.1<|done acc h.2) r i acc m E ⟨rfl,h⟩
noncomputable def num(l:z0):Nat:=l.foldl (λa b=>a*256+b) 0
theorem aeH(l)(b):num (l++[b])=num l*256+b:=by simp[num]
theorem Jx(l:z0):(∀b∈l,b<256)->num l<256^l.length:=by
 have B:∀(l:z0)(a k:Nat),a<256^k->(∀b∈l,b<256)->l.foldl (λa b=>a*256+b) a<256^(k+l.length):=by intro l;induction l with|nil=>intro a k h _;exact h|cons b l J=>intro a k h E;rw[Xc,jZ,<-Ny k l.length];refine J _ _ ?_ λx M=>E x<|dT _ M;have:=E b dE;rw[Nat.pow_succ ..];exact cL (wO this _)<|au (dn (GG a 256).symm)<|pU 256 h
 intro h;have:=B l 0 0 (dl rfl) h;rwa [fQ] at this
theorem QV{l:z0}(h:l[i]?=aa b):num (l.take<|i+1)=num (l.take i)*256+b:=by rw[pO,h,zc ..,aeH ..]
theorem ahz(hb:∀b∈l,b<256)(hn:l.length<=1000):num l<2^4000000:=
 cL (Jx l hb) (au (dn (CS 2 8 l.length).symm)<|uG (dl rfl)<|au (wz 8 hn)<|dl rfl)
theorem QW{i:Nat}(h:(bH l)[i]?=aa v):∃b,l[i]?=aa b/\v=.int b:=by replace h:=(gB)▸h;exact ej h λb B e=>i12 b B e.symm
theorem Ov(n:Nat){v:V}(hv:∀m,gj m v aq=aa (bH l))(hi:∀m,ei m v=aa (bH l))(hl:∀m,d9 m v=aq)(hb:∀b∈l,b<256)(hn:l.length<=100):
  bq (n+1) n5 [v] m=.ok (.int<|num l) m:=by
 refine enterQ [] ?_;conv=>whnf
 refine fj (hi m) ?_;rw[hl m];refine j6 hv (λi x=>[.val v,.val<|.int<|num<|l.take i,x]) (λZ Z=>m) (λZ Z=>True) ?_ ?_ _ trivial rfl rfl
 ·intro i O Z hi Z k hk;refine bo (QW hi) λb B J=>rwl J ?_;have P:=(List.getElem?_eq_some_iff.mp B).1;have E:=hb b<|jW B;conv=>whnf
  refine aJ (rH (a:=num<|l.take i) (b:=8) (ahz (λx M=>hb x<|k8 M) (by exact au (MJ _ _) (au hn (by decide)))) (by decide)) ?_;conv=>whnf
  refine Wq ?_<|hk (.val<|.int b) trivial;rw[Ay ..,R2 E,QV B]
 ·intro x Z;conv=>whnf
  rw[bJ ..,lR]
theorem iK_t(h:p)(k:K (.ok (.bool ae) m)):iK (dP p) m K:=by unfold iK dP;rw[@decide_eq_true p (nO p) h];exact k
theorem iK_f(h:¬p)(k:K (.ok (.bool aq) m)):iK (dP p) m K:=by unfold iK dP;rw[@decide_eq_false p (nO p) h];exact k
theorem cG(k1:p->K (.ok (.bool ae) m))(k2:¬p->K (.ok (.bool aq) m)):iK (dP p) m K:=by
 by_cases h:p
 ·exact iK_t h<|k1 h
 ·exact iK_f h<|k2 h
theorem Us(h:o=ag)(k:K (.ok (.bool !y) m)):B8 o y m K:=by subst h;exact k
theorem ED(h:o=aa v)(k:K (.ok (.bool y) m)):B8 o y m K:=by subst h;exact k
theorem akA(h:o=aa v)(k:K (.ok v m)):Mo o m K:=by subst h;exact k
theorem Vn[d:Decidable p](h:p)(k:K (.ok (.bool ae) m)):bK p m K:=by unfold bK;rw[decide_eq_true h];exact k
theorem KV[d:Decidable p](h:¬p)(k:K (.ok (.bool aq) m)):bK p m K:=by unfold bK;rw[decide_eq_false h];exact k
theorem Gs(h:vb test body K n e m):vb test body K (KS n) e m:=by rw[RT ..];exact h
theorem eA(h:o=aa m)(k:K (.ok .none m)):sK o K:=by subst h;exact k
theorem H8(h:o=aa m)(k:K (.nx e m)):Et o e K:=by subst h;exact k
theorem IJ(h:o=aa v)(k:f v):vt o K f:=by subst h;exact k
theorem Ja(b a):∀(e)(m),eC ok κ e m (a++b)=Fl.seq (eC ok κ e m a) λe m=>eC ok κ e m b:=by induction a with|nil=>exact λZ Z=>rfl|cons s a B=>intro e m;refine(?_:Fl.seq (sf ok κ e m s) (λe m=>eC ok κ e m<|a++b)=Fl.seq (Fl.seq (sf ok κ e m s) λe m=>eC ok κ e m a) _);induction sf ok κ e m s using Fl.casesOn<;>first|exact B _ _|rfl
noncomputable def anT(Q:Env->J->Prop)(K:KF)(x:Fl):Prop:=match x with|.nx e m=>Q e m|x=>K x
theorem FL(k:Nat)(Q:Env->J->Prop)(h1:kB aR (kF aR bN a n) (l.take k) e m (anT Q K))
  (h2:∀e m,Q e m->kB aR (kF aR bN a n) (l.drop k) e m K):kB aR (kF aR bN a n) l e m K:=by
 rw[rU<|rV aR bN a n] at h1⊢;rw[<-pR k l,Ja ..];revert h1;induction eC aR (eW aR bN n) e m (l.take k) using Fl.casesOn with|nx e m=>intro h1;have:=h2 e m h1;rwa [rU<|rV aR bN a n] at this|_=>exact λh=>h
theorem iD(k:Nat)(h:kB aR (kF aR bN a n) (l.take k) e m (FJ (kB aR (kF aR bN a n)<|l.drop k) K)):kB aR (kF aR bN a n) l e m K:=by rw[rU<|rV aR bN a n] at h⊢;rw[<-pR k l,Ja ..];revert h;induction eC aR (eW aR bN n) e m (l.take k) using Fl.casesOn with|nx e m=>exact λh=>(rU (rV aR bN a n) _ e m K).mp h|_=>exact λh=>h
theorem nB(k:Nat)(a:Env)(m':J)(h1:∀K0:KF,K0 (.nx a m')->kB aR (kF aR bN b n) (l.take k) e m K0)(h2:kB aR (kF aR bN b n) (l.drop k) a m' K):kB aR (kF aR bN b n) l e m K:=iD k<|h1 _ h2
theorem wi{K0:KF}(h1:e=a)(h2:m=m')(k:K0 (.nx a m')):K0 (.nx e m):=h1▸rwl h2 k
theorem tJ(a:List Nm)(hf:bN x=aa (.fn f))(e)(he:((l++f.eD.drop (f.eD.length-(f.iU-l.length))).map Sl.val++gQ f.locs .un)=e)(hl:(decide<|l.length<=f.iU/\f.iU-l.length<=f.eD.length)=ae)
  (h:kB aR (kF aR bN (λy=>a.contains y) n) f.body e m (qy K)):K (bq (n+1) x l m):=by
 replace h:=(rU (rV aR bN _ n) ..)▸h;show K (match bN x with
  |some (.fn f)=>hH aR (eW aR bN n) f l m
  |some (.cls f)=>match hH aR (eW aR bN n) f (.inst x m.length::l) (m++[.aA []]) with
   |.ok .none B=>.ok (.inst x m.length) B
   |.exc y B=>.exc y B
   |_=>.H
  |none=>.H)
 rw[hf];dsimp only;unfold hH;rw[aC<|of_decide_eq_true hl,he];revert h;induction eC aR (eW aR bN n) e m f.body using Fl.casesOn<;>exact λh=>h
theorem Vo{n c k:Nat}(a:0<c)(h1:c<1000)(h2:n<1000000)(hk:(n+c-1)/c=k)(m):ei m (.dW 0 n c)=aa ((gb k).map λ(j:Nat)=>nV<|c*j):=by
 unfold ei;dsimp only;rw[show(λ(j:Nat)=>nV<|c*j)=λ(j:Nat)=>V.int ((0:Int)+c*j) from funext λj=>by rw[CT ..,nV,Int.natCast_mul ..],aC<|lG (Int.ofNat_lt.mpr a) (dl rfl) h2<|Int.ofNat_lt.mpr h1,<-hk];congr 3;by_cases B:n=0
 ·refine rwl B ?_;rw[aB<|Int.lt_irrefl 0,fQ ..,Hg<|Nat.pred_lt<|zg a];rfl
 ·rw[aC<|Int.ofNat_lt.mpr<|Hh B,Nq<|Hh B,WS _ a,Int.sub_zero ..,JK<|Hh B];rfl
theorem qA{n:Nat}(h2:n<1000000)(m):ei m (.dW 0 n 1)=aa ((gb n).map λ(j:Nat)=>nV j):=by exact(Vo (n:=n) (c:=1) (k:=n) (dl rfl) (dl rfl) h2 (XT _) m).trans (aw (λf=>aa<|(gb n).map f) (funext λj=>aw nV<|zm j))
theorem Vp{n:Nat}(h2:n<1000000)(m):ei m (.dW 0 n 2)=aa ((gb<|(n+1)/2).map λ(j:Nat)=>nV<|2*j):=Vo (n:=n) (c:=2) (dl rfl) (dl rfl) h2 rfl m
theorem Ai(h:ei m v=aa l)(hs:Al m v=ae)(hl:l.length<=1000):td m v=aa l:=by unfold td;rw[aC hs,h];exact aC hl
theorem R3(h:((gb n).map f)[i]?=aa v):i<n/\v=f i:=by replace h:=(gB ..)▸h;refine ej h λb J e=>bu (List.getElem?_eq_some_iff.mp J) λB E=>?_;replace B:=(iL)▸B;replace E:=(List.getElem_range ..)▸E;exact⟨B,by rw[<-e,E]⟩
theorem m8(h:((gb n).map f)[i]?=aa v){G:Prop}(kk:i<n->v=f i->G):G:=aW (R3 h) kk
section
variable{elt:Env->KK}{fr:Env}{src:V}{kdx:Bool}{K:KR}{l:mV}{f:Nat->V}{m:J}{bV:Nm->mV->J->KR->Prop}
theorem P8(hi:ei m src=aa l)(step:∀i v,l[i]?=aa v->∀K,K (.ok (f i) m)->elt (.val v::fr) m K):
  ∀(r i)(acc),i+r=l.length->acc=(gb i).map f->K (.ok (.lst<|(gb l.length).map f) m)->j9 (kC aR bV ag) elt fr src (d9 m src) l.length K r acc m:=
 λr i acc E B h=>HH hi (λi acc=>acc=(gb i).map f) (λi v acc e B k J=>show elt (.val v::fr) m (ud (λu m=>k (acc++[u]) m) K) from step i v e (ud (λu m=>k (acc++[u]) m) K) (J (acc++[f i]) (by rw[B,XU,jo];rfl))) (λacc B=>rwl B h) r i acc E B
end
noncomputable def jT(r:Int):Prop:=lB r=ae
structure tT(xs:List V)(k s:Nat):Prop where
 len:xs.length<=63
 wj:∀v∈xs,∃i,v=.int i/\jT i
 k:k<100000
 s:s<65521
theorem AX(ha:jT a)(hb:jT b):iz .mul (.int a) (.int b)=aa (.int<|a*b):=by refine(?_:(if lB a&&lB b then aa (a*b) else ag).map V.int=_);rw[show lB a=ae from ha,show lB b=ae from hb];rfl
theorem tB{a:Nat}(h:a<2^200):jT a:=Tv (k:=200) (by rwa [NK ..])<|dl rfl
theorem fa(h:b<=c):a<2^b->a<2^c:=λk=>cL k<|uG (dl rfl) h
theorem tK{α:Type}{l:List α}{i:Nat}{v:α}(h:l[i]?=aa v)(hi:i<1000000):r7 l i=aa v:=by refine(?_:cond (pG 1000000 i) ag l[i]?=aa v);rw[show pG 1000000 i=aq from Bool.eq_false_iff.mpr λh=>Nat.not_le.mpr hi<|qT h];exact h
theorem Az(n:Nat){xs:mV}{k s:Nat}(ok:tT xs k s)(m:J):∃r:Int,jT r/\bq (n+1) c4 [.ref 0] (.lst [.lst xs,nV k,nV s]::m)=.ok (.int r) (.lst [.lst xs,nV<|k+1,nV s]::m):=by
 by_cases c:k<xs.length
 ·refine bo (ok.wj _<|nW c) λi O P=>i12 i P (enterQ [] (aJ (u:=nV xs.length) (aC<|au ok.len<|dl rfl) (iK_t (Int.ofNat_lt.mpr c) (aJ (u:=.int i) (tK (by rw[cT c,O])<|cL c<|au ok.len<|dl rfl) ?_))));exact rfl
 ·have B:=apm ok.k 3;have E:=Nat.add_lt_add (apm ok.k 7) ok.s;have M:(k+3)*(k+7+s)<200000*200000:=Nat.mul_lt_mul'' (cL B<|dl rfl)<|cL E<|dl rfl;have R:(k+3)*(k+7+s)*40503<2^60:=cL (Nat.mul_lt_mul_of_pos_right M<|dl rfl)<|dl rfl;refine i12 ((k+3)*(k+7+s)*40503/64:Nat) (tB<|fa (b:=60) (c:=200) (dl rfl)<|bS (Hi _ _) R) ?_
  ·refine enterQ [] (aJ (u:=nV xs.length) (aC<|au ok.len<|dl rfl)<|iK_f (mt Int.ofNat_lt.mp c)<|aJ (AX (a:=(k+3:Nat)) (b:=(k+7+s:Nat)) (tB<|fa (b:=60) (dl rfl)<|cL B<|dl rfl)<|tB<|fa (b:=60) (dl rfl)<|cL E<|dl rfl)<|aJ (AX (a:=((k+3)*(k+7+s):Nat)) (b:=(40503:Nat)) (tB<|fa (b:=60) (dl rfl)<|cL M<|dl rfl)<|tB<|dl rfl) ?_);rw[apn ..,<-apo _ (dc rfl)];rfl
noncomputable def b9:z0->Nat|a::b::r=>a*256+b+b9 r|[a]=>a*256|[]=>0
theorem IK(b):a.length%2=0->b9 (a++b)=b9 a+b9 b:=
 UD (P:=λa=>a.length%2=0->b9 (a++b)=b9 a+b9 b) (λZ=>(fQ _).symm) (λZ h=>Nat.noConfusion (show 1=0 from h))
  (λx y r ih h=>(aw (x*256+y+·)<|ih<|(GF _ 2).symm.trans h).trans (lS _ _ _).symm) a
theorem aeI:a.length%2=1->b9 (a++[0])=b9 a:=
 UD (P:=λa=>a.length%2=1->b9 (a++[0])=b9 a) (λh=>Nat.noConfusion (show 0=1 from h)) (λZ Z=>rfl)
  (λx y r B h=>by rw[zb,zb];exact aw (x*256+y+·) (B<|(GF _ 2).symm.trans h)) a
theorem aeJ{l:z0}(h1:l[2*i]?=aa a)(h2:l[2*i+1]?=aa b):b9 (l.take<|2*(i+1))=b9 (l.take<|2*i)+(a*256+b):=by
 rw[show 2*(i+1)=2*i+1+1 from rfl,pO,pO,h1,h2,iO ..,IK _ (by rw[gf,mR<|eg (List.getElem?_eq_some_iff.mp h1).1];exact XW 2 i)]
 rfl
noncomputable def ff(s:Nat):Nat:=if s%65535=0 then 0 else 65535-s%65535
noncomputable def yR(l:z0):z0:=l++gQ (l.length%2) 0
theorem ahA(l):(yR l).length=(l.length+1)/2*2:=by unfold yR;rw[d6,apq];exact ak5 _
theorem acI(l):b9 (yR l)=b9 l:=by
 unfold yR;refine bZ (NL l.length) (λh=>?_) λh=>?_
 ·rw[h];exact aw b9<|gC l
 ·rw[h];exact aeI h
theorem oj(a b:Nat):bX (a:Int) (b:Int)=((a%b:Nat):Int):=by rw[Int.natCast_emod ..,Int.fmod_eq_emod_of_nonneg _<|gg b]
theorem m9(a b:Nat):cU (a:Int) (b:Int)=((a/b:Nat):Int):=by rw[apn ..,apo _<|gg b]
theorem AA(h:l.length<=1000000)(m):ma m (.lst l)=aa (nV l.length):=aC h
theorem Tx(h:l.length<=1000000)(m):ma m (.lst<|bH l)=aa (nV l.length):=by have:=AA (l:=bH l) (by rwa [bJ ..]) m;rwa [bJ] at this
theorem Jy(h:a.length+b.length<=1000):iz .add (.lst<|bH a) (.lst<|bH b)=aa (.lst<|bH<|a++b):=by rw[bH,bH,bH,jo];exact aC ⟨rfl,by rwa [bJ ..,bJ ..]⟩
theorem rep0(n:Nat):iz .mul (.lst [.int 0]) (.int<|bX (n:Int) 2)=aa (.lst<|bH<|gQ (n%2) 0):=by have h:=oj n 2;rw[h];rcases NL n with c|c<;>rw[c]<;>rfl
theorem Jz{i b:Nat}(h:l[i]?=aa b):(bH l)[i]?=aa (nV b):=by rw[gB,h];rfl
noncomputable def w2(l:z0)(i:Nat):Nat:=l.getD i 0*256+l.getD (i+1) 0
theorem Jb{l:z0}(h:2*i+1<l.length):b9 (l.take<|2*(i+1))=b9 (l.take<|2*i)+w2 l (2*i):=by rw[aeJ (a:=l[2*i]'(jv h)) (b:=l[2*i+1]'h) (cT<|jv h)<|cT h];unfold w2;rw[fy,fy,cT<|jv h,cT h];rfl
theorem akB(k):2*k<=l.length->(((gb k).map λi=>((w2 l (2*i):Nat):Int)).sum)=((b9 (l.take<|2*k):Nat):Int):=by induction k with|zero=>exact λZ=>rfl|succ k B=>intro h;rw[XU,jo,List.sum_append,B<|au (wz 2<|g0 k) h,Jb h];exact aw (_+·)<|Int.add_zero _
theorem Pm(l):intsOf (l.map .int)=aa l:=by induction l with|nil=>rfl|cons a l B=>exact aw (λo=>o.map (a::·)) B
theorem akC{α:Type}(l:List α)(f)(m):EO m (.lst (l.map λa=>.int<|f a))=aa (.int (l.map f).sum):=by refine(?_:(intsOf (l.map λa=>.int<|f a)).map (λl=>V.int l.sum)=_);rw[show(l.map λa=>V.int<|f a)=(l.map f).map .int by rw[iM];rfl,Pm ..];rfl
theorem jB{a b:Nat}(ha:a<2^200)(hb:b<2^200):iz .mul (nV a) (nV b)=aa (nV<|a*b):=AX (tB ha)<|tB hb
theorem small(h:a<256):a<2^200:=fa (b:=8) (dl rfl) h
theorem ahB(h:∀b∈l,b<2^100):∀b∈yR l,b<2^100:=by
 intro b B;refine bZ (List.mem_append.mp B) (λB=>?_) λB=>?_
 ·exact h b B
 ·rw[(List.mem_replicate.mp B).2];decide
theorem QX(n:Nat){l:z0}(hb:∀b∈l,b<2^100)(hl:l.length<=300)(m:J):bq (n+1) sY [.lst<|bH l] m=.ok (nV<|ff<|b9 l) m:=by
 refine enterQ [] (aJ (Tx (au hl<|dl rfl) m)<|aJ (rep0 _) ?_);refine aJ (Jy (by rw[apq];exact au (mX hl<|eg<|sW _<|dl rfl) (dl rfl))) ?_;have M:=ahA l;have S:=acI l;have hb:=ahB hb;unfold yR at M S hb;generalize l++gQ (l.length%2) 0=p at*;have T:=M▸au (NM _ 2) (gZ hl);have O:=M▸XX _ _;have B:p.length<1000000:=bS T<|dl rfl;have Y:=(aw (2*·)<|IY O).trans<|Ak O;refine aJ (Tx (eg B) m) ?_;conv=>whnf
 have a:=Vp B m;refine Ah (Ai a rfl (by rw[bJ ..,iL];exact au (Hi _ 2) (au (gZ T)<|dl rfl))) ?_;refine P8 (f:=λi=>nV<|w2 p<|2*i) a ?_ _ 0 [] (fQ _) rfl ?_
 ·intro i v d K hK;refine m8 d λe g=>rwl g ?_;have E:=half_lt O e;have P:=jv E;refine aJ (tK (Jz<|cT P)<|d7 P B) ?_;refine aJ (jB (b:=256) (fa (b:=100) (dl rfl)<|hb _<|nW _)<|dl rfl)<|aJ (tK (i:=2*i+1) (Jz<|cT E)<|d7 E B) ?_;unfold w2 at hK;rw[fy,fy,cT P,cT E] at hK;exact hK
 ·rw[bJ ..,iL];refine aJ (akC (gb<|(p.length+1)/2) (λi=>((w2 p (2*i):Nat):Int)) _) ?_;rw[akB _<|dn Y,sQ<|dn Y.symm,S];conv=>whnf
  rw[show bX ((b9 l:Nat):Int) 65535=((b9 l%65535:Nat):Int) from oj _ 65535];refine cG (λc=>?_) λc=>?_
  ·conv=>whnf
   have:ff (b9 l)=65535-b9 l%65535:=aB<|zg<|Int.ofNat_lt.mp c;rw[this];exact aw (λz=>R.ok (V.int z) m)<|l9<|eg<|sW _<|dl rfl
  ·conv=>whnf
   have:ff (b9 l)=0:=aC<|Nat.le_zero.mp<|jV<|mt Int.ofNat_lt.mpr c;rw[this];rfl
end
local macro_rules | `(tactic| rfl') => `(tactic| ((conv => whnf); repeat (first | (refine Mine.Internal.iK_t (by decide) ?_; (conv => whnf)) | (refine Mine.Internal.iK_f (by decide) ?_; (conv => whnf)))))
section
open PySem
noncomputable def eQ(many n:Nat):z0:=(gb many).map λi=>n/256^(many-1-i)%256
def dy(l:z0)(at_ many n:Nat):z0:=l.take at_++eQ many n++l.drop (at_+many)
theorem tm(many n):(eQ many n).length=many:=by unfold eQ;rw[bJ ..,iL]
theorem R4(many n):∀b∈eQ many n,b<256:=by intro b B;exact j8 B λi Z E=>rws E<|sW _<|dl rfl
theorem qb{l:z0}{at_ many:Nat}(n)(h:at_+many<=l.length):(dy l at_ many n).length=l.length:=by rw[d6,d6,tm ..,gf,yZ,mR<|au (cZ _ _) h];exact CK h
theorem xy{m:J}{j:Nat}{l:mV}(h:m[j]?=aa (.lst l)){i:Nat}(hi:i<l.length)(hl:l.length<1000000)(v):uS m (.ref j) (nV i) v=aa (m.set j<|.lst<|l.set i v):=by exact(aw (AU m j (nV i) v) h).trans (aC<|cv (gg i) (Int.ofNat_lt.mpr hi) hl)
theorem EE{a b:Int}{e:Nat}(hb:b=e)(he:e<=1024)(ha:a.natAbs.log2<64):iz .pow (.int a) (.int b)=aa (.int<|a^e):=by refine rwl hb ?_;show(if _ then aa (a^(e:Int).toNat) else ag).map V.int=_;rw[aC<|cv ha (gg e)<|Int.ofNat_le.mpr he];rfl
theorem JA{a b:Nat}{k:Nat}(c:0<b)(hb:b<2^k)(hk:k<=9000):iz .fdiv (nV a) (nV b)=aa (nV<|a/b):=by show(if _ then aa (cU a b) else ag).map V.int=_;rw[aC ⟨λe=>zg c<|i8 e,by rw[NK ..];exact cL ((Nat.log2_lt<|zg c).mpr hb) hk⟩,m9 ..];rfl
theorem my{α:Type}{m:List α}{j:Nat}{x y:α}(h:m[j]?=aa x):(m.set j y)[j]?=aa y:=by rw[List.getElem?_set_self (List.getElem?_eq_some_iff.mp h).1]
theorem xJ(l)(i b):(bH l).set i (nV b)=bH (l.set i b):=by rw[bH,bH,List.map_set]
theorem R5{l:z0}{a k n i:Nat}(h:a+k<=l.length)(hi:i<=k):(l.take a++(eQ k n).take i).length=a+i:=by rw[d6,gf,gf,tm ..,mR<|au (cZ _ _) h,mR hi]
theorem aeK{l:z0}{a k n i:Nat}(h:a+k<=l.length)(hi:i<k):
  (l.take a++(eQ k n).take i++l.drop (a+i)).set (a+i) (n/256^(k-1-i)%256)=l.take a++(eQ k n).take (i+1)++l.drop (a+(i+1)):=by
 have B:=R5 (n:=n) h<|eg hi;rw[CU _ _<|dn B,B,k7 ..,CJ<|cL (wO hi a) h,apr,pO,show(eQ k n)[i]?=aa (n/256^(k-1-i)%256) by rw[gB,aoS hi];rfl,<-iO ..,iO _<|Option.toList _];rfl
theorem R6{l:z0}{a k n i:Nat}(h:a+k<=l.length)(hi:i<=k):(l.take a++(eQ k n).take i++l.drop (a+i)).length=l.length:=by rw[d6,R5 h hi,yZ];exact CK<|au (kZ hi a) h
theorem p256(e):256^e<2^(8*e+1):=by rw[Nat.pow_succ ..,CS ..,show 2^8=256 from rfl];exact(Nat.lt_mul_iff_one_lt_right<|nX<|dl rfl).mpr (dl rfl)
theorem isl{v:V}(h:∀i,v≠.ref i)(m):d9 m v=aq:=by induction v using V.casesOn with|ref i=>exact aT rfl (h i)|_=>rfl
theorem Jc{v:V}{l:mV}(h:∀i,v≠.ref i)(k:∀m,ei m v=aa l)(m):gj m v aq=aa l:=by unfold gj;rw[isl h ..,aC rfl,k ..]
theorem kg{v:V}{l:mV}(k:∀m,ei m v=aa l)(h:ae=!(v.ctorIdx==10))(m):gj m v aq=aa l:=Jc (λi e=>ia (h.trans (aw (λv:V=>!(v.ctorIdx==10)) e))) k m
theorem eV(l):(bH l).length=l.length:=bJ _
theorem JB(n){m:J}{r a k num:Nat}{l:z0}(h:m[r]?=aa (.lst<|bH l))(hk:a+k<=l.length)(hl:l.length<=200)(c:k<=16):
  bq (n+1) n8 [.ref r,nV a,nV k,nV num] m=.ok .none (m.set r<|.lst<|bH<|dy l a k num):=by
 refine enterQ [] ?_;have E:=qA (n:=k)<|bS c<|dl rfl;have M:l.length<1000000:=bS hl<|dl rfl;refine fj (E m) (j6 (kg E rfl) (λi x=>[.val<|.ref r,.val<|nV a,.val<|nV k,.val<|nV num,x]) (λi Z=>m.set r<|.lst<|bH<|l.take a++(eQ k num).take i++l.drop (a+i)) (λZ Z=>True) ?_ ?_ _ trivial rfl ?_)
 ·intro i v Z O Z K hK;refine m8 O λB P=>rwl P ?_;have q:k-1-i<=16:=au (gR _ _)<|au (gR _ _) c;refine aJ (EE (e:=k-1-i) (SA B) (au q (by decide)) (by decide))<|aJ (JA (a:=num) (b:=256^(k-1-i)) (k:=8*(k-1-i)+1) (nX<|dl rfl) (p256 _)<|au (gZ<|wz 8 q)<|dl rfl) ?_;refine dQ (xy (i:=a+i) (my h) (by rw[eV ..,R6 hk<|eg B];exact cL (wO B a) hk) (by rw[eV ..,R6 hk<|eg B];exact M) _) ?_;refine Ms ?_<|hK (.val<|nV i) trivial;rw[show V.int (bX (((num/256^(k-1-i):Nat)):Int) 256)=nV (num/256^(k-1-i)%256) from aw V.int (oj _ 256),xJ ..,aeK hk B,wN ..]
 ·intro x Z;rw[bJ ..,iL,sQ<|dn<|tm _ _];rfl
 ·rw[List.take_zero,gC ..,XC ..,pR ..];refine bu (List.getElem?_eq_some_iff.mp h) λS R=>?_;rw[<-R,aps ..]
noncomputable def cw(l:z0)(i:Nat):z0:=(l.set i 0).set (i+1) 0
def fK(h:Hd)(l:z0):z0:=cond h.ay (dy (cw l 10) 10 2<|ff<|b9<|(cw l 10).take h.aG) l
noncomputable def Pr.off:Pr->Nat|.dY=>16|_=>6
noncomputable def Pr.nn:Pr->Nat|.dY=>6|.e6=>17|.gz=>47
noncomputable def ends(h:Hd)(l:z0):z0:=(cond h.ay ((l.take 20).drop 12)<|(l.take 40).drop 8)++[0,h.bG.nn,0,l.length-h.aG]
noncomputable def Pr.fin(p:Pr)(c:Nat):Nat:=match p with|.e6=>if c=0 then 65535 else c|_=>c
noncomputable def Hd.at_(h:Hd):Nat:=h.aG+h.bG.off
def qB(h:Hd)(l:z0):z0:=cond h.bare (cw l h.at_)<|dy (cw l h.at_) h.at_ 2<|h.bG.fin<|ff<|b9<|ends h (cw l h.at_)++(cw l h.at_).drop h.aG
noncomputable def Hd.no(h:Hd)(l:z0):Prop:=h.bG=.gz\/h.bx=ae\/l.length<h.at_+2
theorem fk(l)(i):(cw l i).length=l.length:=by unfold cw;rw[q8,q8]
structure r8(h:Hd):Prop where
 aG:h.aG<=40
 jL:20<=h.aG
 six:h.ay=aq->h.aG=40
theorem gw{k:Nat}(h:k<1000000):ie (aa<|nV k)=aa (aa k):=by unfold ie;dsimp only;rw[aC ⟨gg k,Int.ofNat_lt.mpr h⟩];rfl
theorem xK{m:J}{a:V}{r:V}{lo hi:La}{lo' hi':Option Nat}(p1:ie lo=aa lo')(p2:ie hi=aa hi')(h:UH (rv m a) lo' hi'=aa r):mv m a lo hi=aa r:=by rw[I7];unfold t6;rw[p1,p2];exact h
theorem jd{m:J}{r:Nat}{o:O}(h:m[r]?=aa o):rv m (.ref r)=match o with|.lst l=>.lst l|.aA l=>.aA l|.bar b=>.bar b|_=>.ref r:=by
 refine(?_:(match m[r]? with|some (O.lst l)=>V.lst l|some (O.aA l)=>V.aA l|some (O.bar b)=>V.bar b|_=>V.ref r)=_)
 induction o using O.casesOn<;>simp only[h]
theorem AB{m:J}{r:Nat}{l:mV}{lo hi:La}{lo' hi':Option Nat}(h:m[r]?=aa (.lst l))(hl:l.length<=1000000)(p1:ie lo=aa lo')(p2:ie hi=aa hi'):mv m (.ref r) lo hi=aa (.lst<|cut l lo' hi'):=by refine xK p1 p2 ?_;rw[jd h];exact aC hl
theorem uW{m:J}{r:Nat}{l:mV}(h:m[r]?=aa (.lst l))(hl:l.length<=1000000):ma m (.ref r)=aa (nV l.length):=by unfold ma;rw[jd h];exact aC hl
theorem ahC(l)(k):cut (bH l) ag (aa k)=bH (l.take k):=by refine(?_:((bH l).take k).drop 0=_);rw[MQ,bH,bH,MM]
theorem ahD{h:Hd}{l:z0}(hb:∀b∈l,b<256)(hl:l.length<=100):∀b∈ends h l++l.drop h.aG,b<2^100:=by
 intro b B;have E:∀b∈l,b<2^100:=λb h=>fa (b:=8) (dl rfl)<|hb b h;refine bZ (List.mem_append.mp B) (λB=>?_) λB=>?_
 ·unfold ends at B;refine bZ (List.mem_append.mp B) (λB=>?_) λB=>?_
  ·refine E b ?_;induction J:h.ay using aS<;>rw[J] at B<;>exact k8 (rb B)
  ·simp only[sS,CA,or_false] at B;rcases B with rfl|rfl|rfl|rfl
   ·decide
   ·induction h.bG using Pr.casesOn<;>exact dc rfl
   ·decide
   ·exact fa (b:=8) (dl rfl)<|bS (gR _ _)<|bS hl<|dl rfl
 ·exact E b<|rb B
theorem xM{l:z0}{i:Nat}(hb:∀b∈l,b<256):∀b∈cw l i,b<256:=by
 intro b h;rcases XY h with h|rfl
 ·rcases XY h with h|rfl
  ·exact hb b h
  ·decide
 ·decide
theorem xA{l:z0}{i k n:Nat}(hb:∀b∈l,b<256):∀b∈dy l i k n,b<256:=by
 intro b h;refine bZ (List.mem_append.mp h) (λh=>?_) λh=>?_
 ·refine bZ (List.mem_append.mp h) (λh=>?_) λh=>?_
  ·exact hb b<|k8 h
  ·exact R4 _ _ b h
 ·exact hb b<|rb h
theorem Aj{h:Hd}{l:z0}(h2:12<=l.length):(fK h l).length=l.length:=by
 unfold fK;induction h.ay using aS
 ·rfl
 ·exact(qb _ (by rw[fk ..];exact h2)).trans (fk _ _)
theorem Ec{h:Hd}{l:z0}(hb:∀b∈l,b<256):∀b∈fK h l,b<256:=by
 unfold fK;induction h.ay using aS
 ·exact hb
 ·exact xA<|xM hb
open Classical in
def ja(h:Hd)(l:z0):z0:=if h.no (fK h l) then fK h l else qB h (fK h l)
theorem big{l:z0}(hb:∀b∈l,b<256):∀b∈l,b<2^100:=λb h=>fa (b:=8) (dl rfl)<|hb b h
def FN(r:Nat)(h:Hd):Env:=[.val<|.ref r,.val h.about,.val<|.bool h.ay,.val<|.int h.bG.num,.val<|nV h.aG,.val<|.bool h.bx,.val<|.bool h.bare,.val<|nV h.now,.un,.un,.un,.un]
theorem rL(p:Pr):p.num=(p.nn:Int):=by induction p using Pr.casesOn<;>rfl
theorem EF(l)(lo hi):cut (bH l) lo hi=bH (cut l lo hi):=by unfold cut;rw[eV ..,bH,bH,W7,MM]
theorem zL{l:z0}{lo hi:Option Nat}:(cut l lo hi).length<=l.length:=by rw[yZ,gf];exact au (gR _ _)<|y5 _ _
def ue(r:Nat)(h:Hd)(k:Nat)(x y:Sl):Env:=[.val<|.ref r,.val h.about,.val<|.bool h.ay,.val<|.int h.bG.num,.val<|nV h.aG,.val<|.bool h.bx,.val<|.bool h.bare,.val<|nV h.now,.val<|nV h.at_,.val<|nV<|k-h.aG,x,y]
theorem IL{m:J}{r:Nat}{o:O}(h:m[r]?=aa o):m.set r o=m:=
 bu (List.getElem?_eq_some_iff.mp h) λZ B=>rws B<|aps ..
theorem amG:∀{p:Pr},p.num=47->p=.gz|.gz,_=>rfl
theorem amH:∀{p:Pr},p.num=17->p=.e6|.e6,_=>rfl
theorem Tz:∀{p:Pr}{c},(p.num=17->¬c=0)->p.fin c=c|.e6,_,h=>aB (h rfl)|.dY,_,_=>rfl|.gz,_,_=>rfl
theorem ahE(n:Nat){m:J}{r:Nat}{h:Hd}{z:z0}(ho:r8 h)(hm:m[r]?=aa (.lst<|bH z))(hz:z.length<=100)(hb:∀b∈z,b<256)(a:h.at_+2<=z.length)(x y):
  kB aR (kF aR bN (λy=>[n8,sY].contains y)<|n+1) (C8.body.drop 5) (ue r h z.length x y) m (qy λd=>d=.ok .none (m.set r<|.lst<|bH<|cond h.bare z<|dy z h.at_ 2<|h.bG.fin<|ff<|b9<|ends h z++z.drop h.aG)):=by
 induction O:h.bare using aS with
 |true=>
  unfold ue;rw[O];rfl';exact aw (R.ok V.none) (IL hm).symm
 |false=>
  unfold ue;rw[O];have E:(bH z).length<=1000000:=rwl (eV z)<|au hz<|dl rfl;have T:(cond h.ay ((z.take 20).drop 12)<|(z.take 40).drop 8).length<=100:=by induction h.ay using aS<;>exact au (@zL z (aa _)<|aa _) hz
  have Y:(cut z (aa h.aG) ag).length<=100:=au zL hz;have P:cut z (aa h.aG) ag=z.drop h.aG:=aw (List.drop h.aG)<|lR ..;have M:∀K,K (.ok (.lst<|bH<|cond h.ay ((z.take 20).drop 12)<|(z.take 40).drop 8) m)->kE aR (kF aR bN (λy=>[n8,sY].contains y)<|n+1) (.ite (.ba 2) (.eY (.ba 0) (aa<|.bU<|.int 12)<|aa<|.bU<|.int 20)<|.eY (.ba 0) (aa<|.bU<|.int 8)<|aa<|.bU<|.int 40)
    [.val<|.ref r,.val h.about,.val<|.bool h.ay,.val<|.int h.bG.num,.val<|nV h.aG,.val<|.bool h.bx,.val<|.bool aq,.val<|nV h.now,.val<|nV h.at_,.val<|nV<|z.length-h.aG,x,y] m K:=by
   intro K;induction h.ay using aS with
   |true=>exact λhK=>aJ (AB hm E (gw (k:=12)<|dl rfl)<|gw (k:=20)<|dl rfl)<|rwl (EF ..) hK
   |false=>exact λhK=>aJ (AB hm E (gw (k:=8)<|dl rfl)<|gw (k:=40)<|dl rfl)<|rwl (EF ..) hK
  refine M _ ?_;have g:=iO (cond h.ay ((z.take 20).drop 12)<|(z.take 40).drop 8) [0,h.bG.nn,0,z.length-h.aG] (cut z (aa h.aG) ag);have S:=sU T 4;have B:=mX S Y;rw[rL ..];refine aJ (Jy (b:=[0,h.bG.nn,0,z.length-h.aG])<|au S<|dl rfl)<|aJ (AB hm E (gw (k:=h.aG)<|bS ho.aG<|dl rfl) rfl) ?_;rw[EF ..,P];replace B:=(P)▸B;refine aJ (Jy (by rw[d6];exact au B (dl rfl))) ?_;refine aM (QX n (ahD (h:=h) hb hz) (by unfold ends;rw[d6,d6];exact au B (dl rfl)) _) ?_;generalize b9 (ends h z++z.drop h.aG)=w;have put:∀{v},v=h.bG.fin (ff w)->bq (n+1) n8 [.ref r,nV h.at_,nV 2,nV v] m=.ok .none (m.set r<|.lst<|bH<|dy z h.at_ 2<|h.bG.fin<|ff w):=λe=>rws e<|JB n (k:=2) hm a (au hz<|dl rfl)<|dl rfl;refine cG (λc=>?_) λc=>?_
  ·have f:=amH<|(rL _).trans c;refine cG (λc=>?_) λc=>?_
   ·refine aM (put (v:=65535) (by rw[f];exact(aC<|i8 c).symm)) ?_;rfl
   ·refine aM (put (Tz λZ e=>c<|aw nY e).symm) ?_;rfl
  ·refine aM (put (Tz λe=>aT ((rL _).symm.trans e) c).symm) ?_;rfl
theorem ahF(n:Nat){m:J}{r:Nat}{h:Hd}{l:z0}(ho:r8 h)(hm:m[r]?=aa (.lst<|bH l))(hl:l.length<=100)(hb:∀b∈l,b<256)(h2:h.aG+2<=l.length){z:z0}(h1:h.no l->z=l)(d:¬h.no l->z=qB h l):
  kB aR (kF aR bN (λy=>[n8,sY].contains y)<|n+1) (C8.body.drop 2) (FN r h) m (qy λe=>e=.ok .none (m.set r<|.lst<|bH z)):=by
 have M:(bH l).length<=1000000:=eV l▸au hl (dl rfl);refine nB 1 (ue r h l.length .un .un) m (λg B=>?_) ?_
 ·have hlen:=(aw (λk:Nat=>(k:Int)-h.aG)<|eV l).trans<|l9<|au (cZ _ 2) h2;unfold FN;unfold ue Hd.at_ at B;have E:=λp a:Int=>aw (λk=>([.val<|.ref r,.val h.about,.val<|.bool h.ay,.val<|.int p,.val<|nV h.aG,.val<|.bool h.bx,.val<|.bool h.bare,.val<|nV h.now,.val<|.int<|h.aG+a,.val<|.int k,.un,.un]:Env)) hlen;revert B;induction h.bG using Pr.casesOn with
  |dY=>exact λB=>iK_t (dc rfl)<|aJ (uW hm M)<|wi (E 6 16) rfl B
  |e6=>exact λB=>iK_f (dc rfl)<|aJ (uW hm M)<|wi (E 17 6) rfl B
  |gz=>exact λB=>iK_f (dc rfl)<|aJ (uW hm M)<|wi (E 47 6) rfl B
 ·have ret:h.no l->R.ok V.none m=.ok .none (m.set r<|.lst<|bH z):=λq=>aw (R.ok V.none)<|rwl (h1 q) (IL hm).symm;refine cG (λc=>ret<|.inl<|amG c) λc=>?_;induction hf:h.bx using aS with
  |true=>
   unfold ue;rw[hf];exact ret<|.inr<|.inl hf
  |false=>
   have j:((h.at_:Nat):Int)+2=((h.at_+2:Nat):Int):=rfl;unfold ue;rw[hf];refine aJ (uW hm M) (cG (λS=>ret<|.inr<|.inr<|rws (eV l)<|Int.ofNat_lt.mp S) λS=>?_);have P:=jV λq=>S<|rwl (eV l)<|Int.ofNat_lt.mpr q;have f:¬h.no l:=λq=>q.elim (λq=>c (by rw[q];rfl)) λq=>q.elim (λq=>iI<|hf.symm.trans q)<|Nat.not_lt.mpr P;have Y:l.length<1000000:=bS hl<|dl rfl;refine dQ (xy (i:=h.at_) hm (by rw[eV ..];exact jv P) (by rw[eV ..];exact Y) _) ?_;refine dQ (xy (i:=h.at_+1) (my hm) (by rw[q8,eV ..];exact P) (by rw[q8,eV ..];exact Y) _) ?_;have T:=fk l h.at_;rw[wN ..,show((bH l).set h.at_<|V.int 0).set (h.at_+1) (V.int 0)=bH (cw l h.at_) from(aw (λq=>q.set (h.at_+1)<|V.int 0)<|xJ l h.at_ 0).trans (xJ _ _ 0),d f];have:=ahE n ho (my (y:=O.lst<|bH<|cw l h.at_) hm) (rwl T hl) (xM hb) (rwl T P) .un .un;rw[wN ..,T] at this;unfold ue at this;replace this:=(hf)▸this;exact this
theorem P9(n:Nat){m:J}{r:Nat}{h:Hd}{l:z0}(hm:m[r]?=aa (.lst<|bH l))(ho:r8 h)(hb:∀b∈l,b<256)(hl:l.length<=100)(h2:h.aG+2<=l.length):
  bq (n+2) wW [.ref r,h.about] m=.ok .none (m.set r<|.lst<|bH<|ja h l):=by
 have B:=au (sU ho.jL 2) h2;have M:l.length<1000000:=bS hl<|dl rfl;have P:=Aj (h:=h)<|au (dl rfl) B;refine tJ [n8,sY] (f:=C8) (K:=λr=>r=_) (by kernel_rfl) _ rfl rfl (FL 2 (λe R=>e=FN r h/\R=m.set r (.lst<|bH<|fK h l)) ?_ ?_)
 ·unfold fK FN;rfl';induction h.ay using aS
  ·exact⟨rfl,(IL hm).symm⟩
  ·refine dQ (xy (i:=10) hm (by rw[eV ..];exact cL (dl rfl) B) (by rw[eV ..];exact M) _) ?_;refine dQ (xy (i:=11) (my hm) (by rw[q8,eV ..];exact cL (dl rfl) B) (by rw[q8,eV ..];exact M) _) ?_;rw[show((bH l).set 10<|V.int 0).set 11 (V.int 0)=bH (cw l 10) from(aw (λq=>q.set 11<|V.int 0)<|xJ l 10 0).trans (xJ _ 11 0),wN ..];have E:=fk l 10;refine aJ (AB (lo:=ag) (my hm) (by rw[eV ..,E];exact eg M) rfl<|gw<|bS ho.aG<|dl rfl) ?_;rw[ahC ..];refine aM (QX n (big λb S=>xM hb b<|k8 S) (by rw[gf,E];exact au (y5 _ _) (au hl<|dl rfl)) _) ?_;refine aM (JB n (a:=10) (k:=2) (num:=ff<|b9<|(cw l 10).take h.aG) (my hm) (by rw[E];exact au (dl rfl) B) (by rw[E];exact au hl (dl rfl))<|dl rfl) ?_;rw[wN ..];exact⟨rfl,rfl⟩
 ·intro e R T;refine aW T λY c=>rwl Y<|rwl c ?_;have:=ahF n ho (my (y:=O.lst<|bH<|fK h l) hm) (rwl P hl) (Ec hb) (rwl P h2) (z:=ja h l) (λq=>aC q) λq=>aB q;rw[wN ..] at this;exact this
inductive Fp where|ip|il|tr (p:Pr)
noncomputable def Fp.ctorIdx(t:Fp):Nat:=Fp.casesOn t 0 1 λZ=>2
structure Fo where
 p:Fp
 at_:Nat
 many:Nat
 name:Nm
 ty:Nm
def pB:List Fo:=[⟨.ip,4,2,Au,cz⟩,⟨.ip,8,1,Ag,cz⟩,⟨.ip,12,4,zH,mY⟩,⟨.ip,16,4,zI,mY⟩,
 ⟨.il,7,1,zv,cz⟩,⟨.il,8,16,zA,mZ⟩,⟨.il,24,16,zB,mZ⟩,
 ⟨.tr .dY,0,2,Dn,iP⟩,⟨.tr .dY,2,2,zF,iP⟩,⟨.tr .dY,4,4,C2,cz⟩,⟨.tr .dY,8,4,Dc,cz⟩,⟨.tr .dY,13,1,Dp,HD⟩,⟨.tr .dY,14,2,Dd,cz⟩,⟨.tr .dY,18,2,De,cz⟩,
 ⟨.tr .e6,0,2,Dq,iP⟩,⟨.tr .e6,2,2,zG,iP⟩]
def AD:Lb:=pB.map (λf=>(f.name,.tup [nV f.at_,nV f.many]))++[(rj,.tup [.int 0,.int 4]),(rf,.tup [.int 0,.int 4]),(lj,.tup [.int 0,.int 4])]
def Fp.word:Fp->Nm|.ip=>kA|.il=>lA|.tr .dY=>iy|.tr _=>tP
def Fp.head:Fp->Nm|.ip=>Up|.il=>lA|.tr .dY=>iy|.tr _=>tP
def Fp.base:Fp->Nm|.tr _=>iw|_=>fA
def Fo.field(f:Fo):V:=.tup [.str du,.str f.ty,nV<|8*f.many,.str cb,.tup [.str f.p.word,.str f.p.base,nV<|8*f.at_]]
def R7:List Nm:=[rj,rf,pW,i9,jw,lT,lj]
structure lF(f:Fo):Prop where
 place:look f.name AD=aa (.tup [nV f.at_,nV f.many])
 nums:R7.contains f.name=aq
 head:cut f.name ag (aa 3)=f.p.head
 field:look f.name tA=aa f.field
 len:f.name.length<=100
 at_:f.at_<=24
 many:f.many<=16
 one:1<=f.many
 ip:f.p=.ip->f.at_+f.many<=20
 il:f.p=.il->f.at_+f.many<=40
 tr:f.p≠.tr .gz
 anU:f.p=.ip->f.at_+f.many<=10\/12<=f.at_
 pos:f.p=.ip->1<=f.at_
 anV:∀p,f.p=.tr p->f.at_+f.many<=p.off\/p.off+2<=f.at_
theorem amI:∀f∈pB,lF f:=by
 have M:pB.map (λf=>look f.name AD)=pB.map (λf=>aa<|.tup [nV f.at_,nV f.many]):=by kernel_rfl
 have E:pB.all (λf=>(R7.contains f.name==aq)&&decide (f.name.length<=100)&&decide (f.at_<=24)&&decide (f.many<=16)&&decide (1<=f.many)&&(match f.p with|.ip=>decide (f.at_+f.many<=20/\(f.at_+f.many<=10\/12<=f.at_)/\1<=f.at_)|.il=>decide (f.at_+f.many<=40)|.tr .gz=>aq|.tr p=>decide<|f.at_+f.many<=p.off\/p.off+2<=f.at_))=ae:=by kernel_rfl
 have O:pB.map (λf=>cut f.name ag<|aa 3)=pB.map (λf=>f.p.head):=by kernel_rfl
 have P:pB.map (λf=>look f.name tA)=pB.map (λf=>aa f.field):=by kernel_rfl
 intro f J;have E:=List.all_eq_true.mp E f J;simp only[yY,decide_eq_true_eq,bO] at E;refine aW E λR B=>aW R λS T=>aW S λV Y=>aW V λa b=>aW a λc d=>⟨List.map_inj_left.mp M f J,c,List.map_inj_left.mp O f J,List.map_inj_left.mp P f J,d,b,Y,T,?_,?_,?_,?_,?_,?_⟩
 ·intro e;rw[e] at B;exact(of_decide_eq_true B).1
 ·intro e;rw[e] at B;exact of_decide_eq_true B
 ·intro e;rw[e] at B;exact dG B
 ·intro e;rw[e] at B;exact(of_decide_eq_true B).2.1
 ·intro e;rw[e] at B;exact(of_decide_eq_true B).2.2
 ·intro p e;replace B:=(e)▸B;induction p using Pr.casesOn with|gz=>exact dG B|_=>exact of_decide_eq_true B
open Classical in
noncomputable def Hd.eI(h:Hd)(f:Fo):Option Nat:=match f.p with|.ip=>cond h.ay (aa f.at_) ag|.il=>cond h.ay ag (aa f.at_)|.tr p=>if h.bG=p/\h.bx=aq/\h.aG+f.at_+f.many<=h.len then aa (h.aG+f.at_) else ag
def spV:Option Nat->V|none=>.int (-1)|some s=>nV s
theorem H9:∀{l},(l.map (·.1)).contains x=aq->look x l=ag|[],_=>rfl|(y,v)::r,h=>by rw[iN,XF,CP] at h;rw[ak7 ..,aB<|beq_eq_false_iff_ne.mp h.1,H9 h.2]
theorem ahG(h:x.length<=100):mv m (.str x) ag (aa<|.int 3)=aa (.str<|cut x ag<|aa 3):=
 xK (lo':=ag) (hi':=aa 3) rfl (gw (k:=3)<|dl rfl) (aC (by exact au (by assumption) (by decide)))
theorem oh(n)(m):bq (n+1) j0 [] m=.ok (.aA AD) m:=by
 refine enterQ [] ?_;have:∀{a b},a=b->R.ok (V.aA a) m=.ok (.aA b) m:=λh=>by rw[h]
 exact this (by kernel_rfl)
structure jM(σ:Sg):Prop where
 hd:r8 σ.h
 len:σ.h.len<=100
 aG:σ.h.aG+2<=σ.h.len
 aL:σ.L.aL.length=σ.h.len
 lt:∀b∈σ.L.aL,b<256
theorem AE{p q:Pr}(h:p.num=q.num):p=q:=by induction p using Pr.casesOn<;>induction q using Pr.casesOn<;>first|rfl|(exact aT h (dc rfl))
theorem R8(n:Nat){σ:Sg}(g:J)(hf:lF f)(ok:jM σ):bq (n+2) xd [.ref 7,.str f.name] (M σ g)=.ok (spV<|σ.h.eI f) (M σ g):=by
 refine enterQ [j0] (aM (oh _ _)<|aJ hf.place<|aJ (ahG hf.len) ?_);rw[hf.head];unfold Hd.eI;have:=hf.tr;induction P:f.p using Fp.casesOn with
 |ip=>
  rfl';induction R:σ.h.ay using aS<;>(exact rfl)
 |il=>
  rfl';induction R:σ.h.ay using aS<;>(exact rfl)
 |tr p=>
  have O:=(eV _).trans ok.aL;have S:=ok.len;have B:p≠.gz:=λe=>this (by rw[P,e]);dsimp only;by_cases E:σ.h.bG=p
  ·induction p using Pr.casesOn with
   |gz=>exact aT rfl B
   |_=>
    refine iK_f (λh=>h (by rw[E];rfl)) ?_;rfl';induction T:σ.h.bx using aS with
    |true=>
     rfl';rw[aB λh=>by exact ia (h.2.1)];rfl
    |false=>
     refine aJ (uW rfl (by rw[O];exact au (by assumption) (by decide))) ?_;rw[O];refine cG (λc=>?_) λc=>?_
     ·rfl';rw[aB λh=>by have:=h.2.2;lia];rfl
     ·rfl';rw[aC ⟨E,rfl,by lia⟩];rfl
  ·rw[aB λh=>E h.1];induction p using Pr.casesOn with
   |gz=>exact aT rfl B
   |_=>
    exact iK_t (λh=>E<|AE h) rfl
inductive Fd where|o(f:Fo)|cB|pri|kK|l4|len|st|nf
noncomputable def Fd.ctorIdx(t:Fd):Nat:=Fd.casesOn t (λZ=>0) 1 2 3 4 5 6 7
def Fd.name:Fd->Nm|.o f=>f.name|.cB=>rj|.pri=>rf|.kK=>lj|.l4=>i9|.len=>pW|.st=>lT|.nf=>jw
def value(h:Hd)(a:Ab):Fd->Option Nat|.o f=>(h.eI f).map λs=>num ((a.aL.drop s).take f.many)|.cB=>aa a.cB|.pri=>aa a.pri|.kK=>a.ct|.l4=>aa h.bG.nn|.len=>aa h.len|.st=>aa a.st|.nf=>aa<|cond h.ay 2 10
noncomputable def Fd.Ok:Fd->Prop|.o f=>lF f|_=>True
set_option tactic.hygienic true in
theorem R9(hf:lF f)(ok:jM σ)(h:σ.h.eI f=aa s):s+f.many<=σ.h.len:=by
 unfold Hd.eI at h;have J:=ok.aG;have M:=ok.hd.jL;split at h
 ·rename_i e;have:=hf.ip e;induction B:σ.h.ay using aS<;>rw[B] at h<;>cases h
  lia
 ·rename_i e;have:=hf.il e;induction B:σ.h.ay using aS<;>rw[B] at h<;>cases h
  have:=ok.hd.six B;lia
 ·split at h
  ·rename_i c;(have E:=bf h;subst E);exact c.2.2
  ·exact bk h
theorem Jd{α:Type}(l:List α)(s k):cut l (aa s) (aa<|s+k)=(l.drop s).take k:=by refine(?_:(l.take<|s+k).drop s=_);rw[List.drop_take];congr 1;lia
theorem xr(n:Nat)(g:J)(ok:jM σ):∀{f:Fd},f.Ok->bq (n+3) jx [.ref 7,.str f.name] (M σ g)=.ok (oV<|value σ.h σ.L f) (M σ g)
 |.o f,B=>by
  refine enterQ [j0,xd] (Us (H9 B.nums)<|aM (R8 _ g B ok) ?_);rw[show value σ.h σ.L (.o f)=(σ.h.eI f).map λs=>num ((σ.L.aL.drop s).take f.many) from rfl];induction P:σ.h.eI f using aO with
  |none=>rfl';rfl
  |some s=>
   have d:=R9 B ok P;have e:=ok.len;refine iK_f (by lia)<|aM (oh _ _)<|aJ B.place ?_;refine aJ (AB rfl (by rw[eV ..,ok.aL];exact au (by assumption) (by decide)) (gw (k:=s) (by lia)) (gw (k:=s+f.many) (by lia))) ?_;rw[EF ..,Jd ..];have S:∀b∈(σ.L.aL.drop s).take f.many,b<256:=λb h=>ok.lt b<|rb<|k8 h;have j:((σ.L.aL.drop s).take f.many).length<=16:=by have:=B.many;rw[gf];lia
   dsimp only[zf];generalize(σ.L.aL.drop s).take f.many=l at*;have E:∀m,ei m (.lst<|bH l)=aa (bH l):=λm=>aC (by rw[eV ..];exact au (by assumption) (by decide));refine fj (E _) (j6 (kg E rfl) (λi x=>[.val<|.ref 7,.val<|.str f.name,.val<|nV s,.val<|nV<|num<|l.take i,x]) (λZ Z=>M σ g) (λZ Z=>True) ?_ ?_ _ trivial rfl rfl)
   ·intro i v Z T Z K hK;refine bo (QW T) λb V Y=>rwl Y ?_;refine aJ (jB (a:=num<|l.take i) (b:=256) (cL (Jx _ λx c=>S x<|k8 c) (by
     rw[show(256:Nat)=2^8 from rfl,<-CS ..];exact uG (by decide) (by rw[gf];lia))) (by decide)) ?_
    have O:=hK (.val<|nV b) trivial;rw[QV V] at O;exact O
   ·intro x Z;rw[eV ..,lR];rfl
 |.cB,_=>by
  exact enterQ [] rfl
 |.pri,_=>by
  exact enterQ [] rfl
 |.len,_=>by
  exact enterQ [] rfl
 |.st,_=>by
  exact enterQ [] rfl
 |.l4,_=>by
  refine enterQ [] ?_;rfl';rw[rL ..];rfl
 |.nf,_=>by
  refine enterQ [] ?_;rfl';refine(?_:_=R.ok (nV<|cond σ.h.ay 2 10) (M σ g));induction σ.h.ay using aS<;>rfl
 |.kK,_=>by
  exact enterQ [] rfl
inductive Wo where|mask|or|xor [h:Nonempty Unit]
noncomputable def Wo.ctorIdx(t:Wo):Nat:=Wo.casesOn t 0 1 2
def Wo.word:Wo->Nm|.mask=>ve|.or=>yx|.xor=>E3
noncomputable def Wo.fn:Wo->Nat->Nat->Nat|.mask,a,b=>a&&&b|.or,a,b=>a|||b|.xor,a,b=>(a|||b)-(a&&&b)
inductive Sr where|num(n:Nat)|fld (f:Fd)|kL (o:Wo) (f:Fd) (n:Nat)
noncomputable def Sr.ctorIdx(t:Sr):Nat:=Sr.casesOn t (λZ=>0) (λZ=>1) λZ Z Z=>2
def Fd.toV(f:Fd):V:=.tup [.str lr,.str f.name]
def Sr.toV:Sr->V|.num n=>.tup [.str jF,nV n]|.fld f=>f.toV|.kL o f n=>.tup [.str o.word,f.toV,nV n]
def source(h:Hd)(a:Ab):Sr->Option Nat|.num n=>aa n|.fld f=>value h a f|.kL o f n=>(value h a f).map λk=>o.fn k n
noncomputable def Sr.Ok:Sr->Prop|.num _=>True|.fld f=>f.Ok|.kL _ f _=>f.Ok
theorem acJ(n:Nat)(g:J)(ok:jM σ):∀{e:Sr},e.Ok->bq (n+4) C4 [.ref 7,e.toV] (M σ g)=.ok (oV<|source σ.h σ.L e) (M σ g)
 |.num k,_=>by
  exact enterQ [jx] rfl
 |.fld f,h=>by
  exact enterQ [jx] (aM (xr n g ok h) rfl)
 |.kL o f k,h=>by
  refine enterQ [jx] ?_;have B:=xr n g ok h;rw[show source σ.h σ.L (.kL o f k)=(value σ.h σ.L f).map λj=>o.fn j k from rfl];induction E:value σ.h σ.L f using aO with
  |none=>
   rw[E] at B;induction o using Wo.casesOn<;>(rfl';refine aM B ?_;rfl';rfl)
  |some j=>
   rw[E] at B;induction o using Wo.casesOn
   ·rfl';refine aM B ?_;rfl';rw[lp ..];rfl
   ·rfl';refine aM B ?_;rfl';rw[Ay ..];rfl
   ·rfl';refine aM B ?_;rfl';rw[QT ..];rfl
def fD:V:=.tup [.str gU,.str k_]
def rM(x:Nm):V:=.tup [.str Eb,.str x]
def E6:V:=rM CV
def jN(h:Hd)(a:Ab)(n:Nat):Fd->V×Ab
 |.o f=>match h.eI f with
  |none=>(fD,a)
  |some s=>(.none,{a with aL:=ja h (dy a.aL s f.many n)})
 |.cB=>(.none,{a with cB:=n})
 |.pri=>(.none,{a with pri:=n})
 |.kK=>(.none,{a with ct:=a.ct.map λZ=>n})
 |_=>(E6,a)
def tC(h:Hd)(a:Ab)(f:Fd)(e:Sr):V×Ab:=match source h a e with|none=>(fD,a)|some n=>jN h a n f
noncomputable def Sg.cf(σ:Sg)(a:Ab):Sg:={σ with L:=a}
theorem akD(n:Nat)(g:J)(ok:jM σ)(he:e.Ok):∀{f:Fd},f.Ok->bq (n+5) DA [.ref 7,.str f.name,e.toV] (M σ g)=.ok (tC σ.h σ.L f e).1 (M (σ.cf (tC σ.h σ.L f e).2) g):=by
 intro f B;have E:=acJ n g ok he;unfold tC;refine enterQ [C4,j0,xd,n8,wW] ?_;induction f using Fd.casesOn with
 |o f=>
  refine KV (λh=>?_) ?_
  ·have:=B.place;rw[show f.name=zV from h] at this;exact aT this (by rw[show look zV AD=ag by kernel_rfl];exact λh=>by exact bk h)
  refine aM E ?_;induction source σ.h σ.L e using aO with
  |none=>exact rfl
  |some k=>
   refine aM (oh _ _)<|ED B.place<|Us (H9 B.nums)<|aM (R8 _ g B ok) ?_;unfold jN;dsimp only;induction O:σ.h.eI f using aO with
   |none=>rfl';rfl
   |some s=>
    have V:=R9 B ok O;have Y:=ok.len;have b:=ok.aL;have c:=ok.aG;have d:=qb (l:=σ.L.aL) (at_:=s) (many:=f.many) k (by lia);exact iK_f (by lia) (aM (oh _ _) (aJ B.place (aM (JB _ (a:=s) (k:=f.many) (num:=k) (l:=σ.L.aL) rfl (by lia) (by lia) B.many) (aM (P9 _ (r:=2) (l:=dy σ.L.aL s f.many k) rfl ok.hd (xA ok.lt) (by lia) (by lia)) rfl))))
 |cB=>
  refine aM E ?_;induction source σ.h σ.L e using aO with
  |none=>exact rfl
  |some k=>
   exact aM (oh _ _) rfl
 |pri=>
  refine aM E ?_;induction source σ.h σ.L e using aO with
  |none=>exact rfl
  |some k=>
   exact aM (oh _ _) rfl
 |kK=>
  refine aM E ?_;induction source σ.h σ.L e using aO with
  |none=>exact rfl
  |some k=>
   refine aM (oh _ _) ?_;unfold jN Sg.cf;obtain⟨i,at_,sum,m,p,h,⟨aL,cB,pri,st,R,S,T⟩,P,q⟩:=σ;induction R using aO with
   |none=>exact rfl
   |some j=>exact rfl
 |_=>
  refine aM E ?_;induction source σ.h σ.L e using aO with
  |none=>exact rfl
  |some k=>
   exact aM (oh _ _) rfl
section
variable{cond elt:Env->KK}{fr:Env}{src:V}{K:KR}{l:mV}{f:Nat->V}{c:Nat->Bool}{m:J}
theorem ZZ(hi:ei m src=aa l)(s1:∀i v,l[i]?=aa v->∀K,K (.ok (.bool<|c i) m)->cond (.val v::fr) m K)(a:∀i v,l[i]?=aa v->∀K,K (.ok (f i) m)->elt (.val v::fr) m K):
  ∀(r i)(acc),i+r=l.length->acc=((gb i).filter c).map f->K (.ok (.lst<|((gb l.length).filter c).map f) m)->j9 cond elt fr src (d9 m src) l.length K r acc m:=
 λr i acc M B h=>HH hi (λi acc=>acc=((gb i).filter c).map f) (λi v acc e B k J=>s1 i v e _ (by
  have E:((gb<|i+1).filter c).map f=acc++_root_.cond (c i) [f i] []:=by rw[B,XU,XZ ..,jo,X0];induction c i using aS<;>rfl
  revert E;induction c i using aS with|true=>exact λE=>a i v e _ (J _ E.symm)|false=>exact λE=>J _ (E.trans<|gC acc).symm)) (λacc B=>rwl B h) r i acc M B
end
inductive Cm where|eq|ne|lt|le|gt|ge|any|none [h:Nonempty Unit]
noncomputable def Cm.ctorIdx(t:Cm):Nat:=Cm.casesOn t 0 1 2 3 4 5 6 7
def Cm.word:Cm->Nm|.eq=>yy|.ne=>Ey|.lt=>Bj|.le=>EA|.gt=>Bk|.ge=>Ez|.any=>ye|.none=>EB
def Cm.fn:Cm->Nat->Nat->Bool|.eq,a,b=>decide (a=b)|.ne,a,b=>!decide (a=b)|.lt,a,b=>decide (a<b)|.le,a,b=>decide (a<=b)|.gt,a,b=>decide (b<a)|.ge,a,b=>decide (b<=a)|.any,a,b=>decide (a&&&b≠0)|.none,a,b=>decide<|a&&&b=0
theorem QY:(x%2+y%2=2)<->(x%2=1/\y%2=1):=by rcases NL x with h|h<;>rcases NL y with k|k<;>rw[h,k]<;>decide
theorem abv(ha:a<2^130):((gb 130).filter λi=>decide<|a/2^i%2+b/2^i%2=2)=[]<->a&&&b=0:=by
 rw[List.filter_eq_nil_iff];constructor
 ·intro h;refine apu λi=>?_;rw[X1 ..,apv ..];by_cases E:i<130
  ·have:=h i<|List.mem_range.mpr E;rw[decide_eq_true_eq,QY] at this;rw[NN,NN,<-Cz ..,yY ..,decide_eq_true_eq,decide_eq_true_eq];exact this
  ·rw[apw<|cL ha<|uG (dl rfl)<|jV E,Ha ..]
 ·intro h i _ B;rw[decide_eq_true_eq,QY] at B;have:=X1 a b i;rw[h,apv,NN,NN,decide_eq_true B.1,decide_eq_true B.2] at this;exact dG this
theorem p2(e):2^e<2^(e+1):=Nat.pow_lt_pow_right (dl rfl)<|wy e
theorem iq(h:y=x):R.ok (V.bool x) m=.ok (V.bool y) m:=rws h rfl
theorem akE(n:Nat)(ha:a<2^128)(m:J)(o:Cm):bq (n+1) C5 [nV a,.str o.word,nV b] m=.ok (.bool<|o.fn a b) m:=by
 have P:∀(x)(K),(∀l,(l=[]<->a&&&b=0)->K (.ok (.lst l) m))->kE aR (kF aR bN (λy=>[].contains y) n) (.comp (.ba 0) (.bi .range [(.bU<|.int 130)]) (aa<|.cmp .eq (.bin .add (.bin .mod (.bin .fdiv (.ba 1)<|.bin .pow (.bU<|.int 2)<|.ba 0)<|.bU<|.int 2)<|.bin .mod (.bin .fdiv (.ba 2)<|.bin .pow (.bU<|.int 2)<|.ba 0)<|.bU<|.int 2)<|.bU<|.int 2) [0,2]) [.val<|nV a,.val x,.val<|nV b,.un,.un] m K:=by
  intro x K hK;have R:=qA (n:=130) (dl rfl) m;refine Ah (Ai R rfl (by rw[bJ ..,iL];decide)) ?_;refine ZZ (c:=λi=>decide<|a/2^i%2+b/2^i%2=2) (f:=λi=>nV i) R ?_ ?_ _ 0 [] (fQ _) rfl ?_
  ·intro i v B K hK;refine m8 B λT V=>rwl V ?_;have E:i<=1024:=au (eg T) (by decide);have M:i+1<=9000:=au (gZ E) (by decide);have S:=λa:Nat=>JA (a:=a) (nX (by decide)) (p2 i) M;refine aJ (EE (e:=i) rfl E (by decide))<|aJ (S a)<|aJ (EE (e:=i) rfl E<|dl rfl)<|aJ (S b) ?_;rfl';rw[show bX ((a/2^i:Nat):Int) 2=((a/2^i%2:Nat):Int) from oj _ 2,show bX ((b/2^i:Nat):Int) 2=((b/2^i%2:Nat):Int) from oj _ 2];refine cG (λc=>?_) λc=>?_
   ·rwa [decide_eq_true<|i8 c] at hK
   ·rwa [decide_eq_false λh=>c<|aw nY h] at hK
  ·intro i v B K hK;exact rwl (R3 B).2 hK
  ·rw[bJ ..,iL];exact hK _<|List.map_eq_nil_iff.trans<|abv<|fa (b:=128) (dl rfl) ha
 induction o using Cm.casesOn with
 |any=>
  refine enterQ [] (P _ _ λl hl=>?_);induction l using dz with
  |nil=>exact iq (decide_eq_false λh=>h<|hl.mp rfl)
  |cons z r=>exact iq (decide_eq_true λh=>nomatch hl.mpr h)
 |none=>
  refine enterQ [] (P _ _ λl hl=>?_);induction l using dz with
  |nil=>exact iq (decide_eq_true<|hl.mp rfl)
  |cons z r=>exact iq (decide_eq_false λh=>nomatch hl.mpr h)
 |_=>
  refine enterQ [] (cG (λc=>?_) λc=>?_)
  ·have e:=i8 c;refine rws e ?_;first
    |exact iq (decide_eq_true rfl)
    |exact iq (aw not<|decide_eq_true rfl)
    |exact iq (decide_eq_false<|sL a)
    |exact iq (decide_eq_true<|dR a)
  ·have h:=λh=>c<|aw nY h;refine cG (λO=>?_) λO=>?_
   ·have g:=Int.ofNat_lt.mp O;first
     |exact iq (decide_eq_false h)
     |exact iq (aw not<|decide_eq_false h)
     |exact iq (decide_eq_false<|Nat.lt_asymm g)
     |exact iq (decide_eq_false<|Nat.not_le.mpr g)
     |exact iq (decide_eq_true g)
     |exact iq (decide_eq_true<|eg g)
   ·have g:=X4 (jV λg=>O<|Int.ofNat_lt.mpr g) h;first
     |exact iq (decide_eq_false h)
     |exact iq (aw not<|decide_eq_false h)
     |exact iq (decide_eq_true g)
     |exact iq (decide_eq_true<|eg g)
     |exact iq (decide_eq_false<|Nat.lt_asymm g)
     |exact iq (decide_eq_false<|Nat.not_le.mpr g)
structure Li where
 lo:Nat
 hi:Nat
 dat:List V
def Li.toV(x:Li):V:=.tup [.tup [.tup [nV x.lo,nV x.hi]],.tup x.dat,.int 0,.str k_]
noncomputable def Li.has(k:Nat)(x:Li):Bool:=decide<|x.lo<=k/\k<=x.hi
noncomputable def oH(l:List Li):V:=.tup<|l.map Li.toV
noncomputable def KW:Option mV->V|none=>.none|some d=>.tup d
def hit(h:Hd)(a:Ab)(f:Fd)(l:List Li):Option mV:=match value h a f with|none=>ag|some k=>(l.find?<|Li.has k).map (·.dat)
theorem Sa{α:Type}{p:α->Bool}{l:List α}{x:α}(a:(l.take i).find? p=ag)(h:l[i]?=aa x)(hp:p x=ae):l.find? p=aa x:=by refine bu (List.getElem?_eq_some_iff.mp h) λB E=>?_;rw[<-pR i l,apx,a,CJ B,E,Cw,hp];rfl
theorem Sb{α:Type}{p:α->Bool}{l:List α}{x:α}(a:(l.take i).find? p=ag)(h:l[i]?=aa x)(hp:p x=aq):(l.take<|i+1).find? p=ag:=by rw[pO,h,apx,a];simp[hp]
theorem xt{α β:Type}{f:α->β}{l:List α}{i:Nat}{v:β}(h:(l.map f)[i]?=aa v){G:Prop}(kk:∀x,l[i]?=aa x->v=f x->G):G:=by replace h:=(gB)▸h;exact ej h λb B e=>kk b B e.symm
theorem TA(n:Nat){σ:Sg}(g:J)(ok:jM σ){f:Fd}(hf:f.Ok){l:List Li}(hl:l.length<=100):bq (n+4) s9 [.ref 7,f.toV,oH l] (M σ g)=.ok (KW<|hit σ.h σ.L f l) (M σ g):=by
 refine enterQ [jx] ?_;have B:=xr n g ok hf;unfold hit;induction O:value σ.h σ.L f using aO with
 |none=>
  replace B:=(O)▸B;exact aM B rfl
 |some k=>
  replace B:=(O)▸B;dsimp only;refine aM B ?_;rfl';have P:∀m,ei m (oH l)=aa (l.map Li.toV):=λm=>aC (by rw[bJ ..];exact au (by assumption) (by decide));refine fj (P _) (j6 (kg P rfl) (λi (q:Sl×Sl×Sl×Sl)=>[.val<|.ref 7,.val f.toV,.val<|oH l,.val<|nV k,q.1,q.2.1,q.2.2.1,q.2.2.2]) (λZ Z=>M σ g) (λi Z=>(l.take i).find? (Li.has k)=ag) ?_ ?_ (_,_,_,_) rfl rfl rfl)
  ·intro i v Z B E K hK;refine xt B λq R S=>rwl S ?_;rfl';by_cases c:q.lo<=k/\k<=q.hi
   ·rw[show decide ((q.lo:Int)<=k/\(k:Int)<q.hi+1)=ae from decide_eq_true ⟨Int.ofNat_le.mpr c.1,Int.lt_add_one_of_le<|Int.ofNat_le.mpr c.2⟩];rfl';rw[Sa E R<|decide_eq_true c];rfl
   ·rw[show decide ((q.lo:Int)<=k/\(k:Int)<q.hi+1)=aq from decide_eq_false λh=>c ⟨Int.ofNat_le.mp h.1,Int.ofNat_le.mp<|Int.le_of_lt_add_one h.2⟩];exact hK (_,_,_,_)<|Sb E R<|decide_eq_false c
  ·intro Z E;rw[bJ,lR] at E;rfl';rw[E];rfl
inductive Ad where|none|span (a b:Nat)|pC (a len:Nat)|map (f:Fd) (l:List Li)
noncomputable def Ad.ctorIdx(t:Ad):Nat:=Ad.casesOn t 0 (λZ Z=>1) (λZ Z=>2) λZ Z=>3
def Ad.toV:Ad->V|.none=>.none|.span a b=>.tup [.str EC,nV a,nV b]|.pC a k=>.tup [.str E4,nV a,nV k]|.map f l=>.tup [.str rW,f.toV,.tup [.str rW,oH l]]
def ly:Option (Nat×Nat)->V|none=>.none|some (a,b)=>.tup [nV a,nV b]
noncomputable def width(nf:Nat):Nat:=if nf=2 then 32 else 128
noncomputable def Ab.app(a:Ab)(v:V):Ab:={a with log:=a.log++[v]}
def tD:V:=.tup [.str DW,.str k_]
def uf(kind:Nm)(nf:Nat)(lo hi a:V)(flags:mV):V:=.tup [.str kind,nV nf,lo,hi,a,.tup flags]
def TB(nf a k:Nat):Nat:=a/2^(width nf-k)*2^(width nf-k)
def tE(h:Hd)(a:Ab)(kind:Nm)(nf:Nat)(ad:Ad)(b:Option (Nat×Nat))(flags:mV):V×Ab:=match ad with|.none=>(tD,a.app<|uf kind nf .none .none (ly b) flags)|.span x y=>(tD,a.app<|uf kind nf (nV x) (nV y) (ly b) flags)|.pC x k=>(tD,a.app<|uf kind nf (nV<|TB nf x k) (nV<|TB nf x k+2^(width nf-k)-1) (ly b)<|flags++[.str IE])|.map f l=>match hit h a f l with|none=>(fD,a)|some [x,y]=>(tD,a.app<|uf kind nf x x (.tup [y,y]) flags)|some [x]=>(tD,a.app<|uf kind nf x x (ly b) flags)|some _=>(fD,a)
noncomputable def Li.Nums(x:Li):Prop:=(∃a:Nat,x.dat=[nV a])\/∃a b:Nat,x.dat=[nV a,nV b]
noncomputable def Ad.Ok(nf:Nat):Ad->Prop|.pC a k=>k<=width nf/\a<2^width nf|.map f l=>f.Ok/\l.length<=10/\∀x∈l,x.Nums|_=>True
theorem ez(h:m[j]?=aa (.lst l))(hl:l.length<100000)(u):KP m (.ref j) u=aa (m.set j<|.lst<|l++[u]):=by exact(aw (J8 m j u) h).trans (aC hl)
theorem Qa(h:a.length+b.length<=1000):iz .add (.tup a) (.tup b)=aa (.tup<|a++b):=aC ⟨rfl,h⟩
theorem IM(e:hit h a f l=aa d):∃x∈l,x.dat=d:=by
 unfold hit at e;split at e
 ·exact bk e
 ·exact ej e λx B E=>rws E<|i12 x (CF B) rfl
theorem Je{a e:Nat}{b:Int}(hb:b=e)(he:e<=1024)(ha:a.log2<64):iz .pow (nV a) (.int b)=aa (nV<|a^e):=by rw[EE hb he (by rwa [NK ..]),nV,X5 ..]
theorem vD{a b:Nat}(h:0<b):((a:Int)+(b:Int)-1)=((a+b-1:Nat):Int):=JK (a:=a+b)<|cL h<|wQ _ _
theorem QZ(nf):width nf<=128:=by unfold width;split<;>decide
theorem akF(n:Nat){σ:Sg}(g:J)(ok:jM σ)(p:σ.L.log.length<1000)(kind:Nm){nf:Nat}(ha:ad.Ok nf)(i:Option (Nat×Nat))(fM:flags.length<=10):
  bq (n+5) DB [.ref 7,.str kind,nV nf,ad.toV,ly i,.tup flags] (M σ g)=.ok (tE σ.h σ.L kind nf ad i flags).1 (M (σ.cf (tE σ.h σ.L kind nf ad i flags).2) g):=by
 refine enterQ [s9] ?_;induction ad using Ad.casesOn with
 |none=>
  exact eA (ez (l:=σ.L.log) rfl (by exact au (by assumption) (by decide)) _) rfl
 |span a b=>
  exact eA (ez (l:=σ.L.log) rfl (by exact au (by assumption) (by decide)) _) rfl
 |pC a k=>
  refine aW ha λV Y=>?_;have j:=cL Y<|uG (dl rfl)<|QZ nf;have R:width nf-k<=128:=au (gR _ _)<|QZ nf;have S:width nf-k+1<=200:=au (gZ R)<|dl rfl;have E:∀K:KR,K (.ok (nV<|2^(width nf-k))<|M σ g)->kE aR (kF aR bN (λy=>[s9].contains y)<|n+4) (.bin .pow (.bU<|.int 2)<|.bin .sub (.ite (.cmp .eq (.ba 2)<|.bU<|.int 2) (.bU<|.int 32)<|.bU<|.int 128)<|.sub (.ba 3)<|.bU<|.int 2)
    [.val<|.ref 7,.val<|.str kind,.val<|nV nf,.val (Ad.pC a k).toV,.val<|ly i,.val<|.tup flags,.val .none,.val .none,.un,.un] (M σ g) K:=by
   intro K hK;have fin:∀{w:Nat},width nf=w->iz .pow (nV 2) (.int<|(w:Int)-k)=aa (nV<|2^(width nf-k)):=λe=>Je (a:=2) (e:=width nf-k) (e▸l9 (rws e V)) (au R<|dl rfl)<|dl rfl;refine cG (λc=>?_) λc=>?_
   ·exact aJ (fin (w:=32)<|aC<|i8 c) hK
   ·exact aJ (fin (w:=128) (aB λh=>c<|aw nY h)) hK
  refine E _ ?_;have T:=p2<|width nf-k;refine aJ (JA (a:=a) (b:=2^(width nf-k)) (nX<|dl rfl) T<|au S<|dl rfl) (aJ (jB (a:=a/2^(width nf-k)) (b:=2^(width nf-k)) (fa (b:=128) (dl rfl)<|bS (Hi _ _) j)<|fa S T) (aJ (Qa<|au (gZ fM)<|dl rfl) (eA (ez (l:=σ.L.log) rfl (by exact au (by assumption) (by decide)) _) ?_)));rw[vD (b:=2^(width nf-k))<|nX<|dl rfl];exact rfl
 |map f l=>
  have B:=TA n g ok ha.1 (l:=l) (by have:=ha.2.1;exact au (by assumption) (by decide));unfold tE;dsimp only;induction O:hit σ.h σ.L f l using aO with
  |none=>
   replace B:=(O)▸B;exact aM B rfl
  |some d=>
   replace B:=(O)▸B;refine bo (IM O) λx m o=>?_;subst o;refine bZ (ha.2.2 x m) (λP=>bu P λa e=>?_) λP=>iX P λa b e=>?_
   ·rw[e] at B⊢;exact aM B (iK_f (show¬(1:Int)=2 by decide) (eA (ez (l:=σ.L.log) rfl (by exact au (by assumption) (by decide)) _) rfl))
   ·rw[e] at B⊢;exact aM B (iK_t (show(2:Int)=2 from rfl) (eA (ez (l:=σ.L.log) rfl (by exact au (by assumption) (by decide)) _) rfl))
inductive Bd where|Vq|len|st|none|BK [h:Nonempty Unit]
noncomputable def Bd.ctorIdx(t:Bd):Nat:=Bd.casesOn t 0 1 2 3 4
inductive Vd where|go|cont|Vr|goto [h:Nonempty Unit]
noncomputable def Vd.ctorIdx(t:Vd):Nat:=Vd.casesOn t 0 1 2 3
def Vd.toV:Vd->V|.go=>tD|.cont=>.tup [.str m5,.str k_]|.Vr=>.tup [.str Jv,.str wh]|.goto=>.tup [.str Tt,.str Wm]
inductive Rj where|ug|tU|tL|dY [h:Nonempty Unit]
noncomputable def Rj.ctorIdx(t:Rj):Nat:=Rj.casesOn t 0 1 2 3
def Rj.word:Rj->Nm|.ug=>vd|.tU=>R1|.tL=>Af|.dY=>iy
noncomputable def Rj.code:Rj->Int|.ug=>3|.tU=>1|.tL=>4|.dY=>0
inductive Sm where|set(f:Fd)(e:Sr)|H(b:Bd)|nM(f:Fd)(o:Cm)(n:Nat)|mN(f:Fd)(l:List Li)|log(a b:Nm)|pE|cnt(a b:Nat)|dZ(o:Bool)(a b:Nat)|nat(kind:Nm)(nf:Nat)(ad:Ad)(fT:Option (Nat×Nat))(flags:List V)|lN(r:Rj)|mO(v:Vd)|exp(on:Bool)|pF|dup
noncomputable def Sm.ctorIdx(t:Sm):Nat:=Sm.casesOn t (λZ Z=>0) (λZ=>1) (λZ Z Z=>2) (λZ Z=>3) (λZ Z=>4) 5 (λZ Z=>6) (λZ Z Z=>7) (λZ Z Z Z Z=>8) (λZ=>9) (λZ=>10) (λZ=>11) 12 13
def Bd.toV:Bd->V|.Vq=>.tup [.str gW,.str H5,.tup [.str jF,.int 1]]|.len=>.tup [.str gW,.str pW,.tup [.str jF,.int 1]]|.st=>.tup [.str gW,.str lT,.tup [.str jF,.int 1]]|.none=>.tup [.str gW,.str zV,.tup [.str jF,.int 1]]|.BK=>.tup [.str gW,.str Hk,.tup [.str lr,.str lj]]
def Sm.toV:Sm->V|.set f e=>.tup [.str gW,.str f.name,e.toV]|.H b=>b.toV|.nM f o n=>.tup [.str xw,f.toV,.str o.word,.tup [.str jF,nV n]]|.mN f l=>.tup [.str xH,f.toV,.tup [.str rW,oH l]]|.log a b=>.tup [.str gV,.str a,.str b]|.pE=>.tup [.str xm]|.cnt a b=>.tup [.str lh,nV a,nV b]|.dZ o a b=>.tup [.str lY,.bool o,nV a,nV b]|.nat k B ad p E=>.tup [.str oG,.str k,nV B,ad.toV,ly p,.tup E]|.lN r=>.tup [.str ry,.str r.word,.int r.code]|.mO v=>.tup [.str tg,v.toV]|.exp o=>.tup [.str m7,.str<|cond o BJ jE]|.pF=>.tup [.str xI,.str Wn]|.dup=>.tup [.str Bl,.str wh]
noncomputable def Li.Vdt(x:Li):Prop:=∃v:Vd,v.toV=.tup x.dat
noncomputable def Sm.Ok:Sm->Prop|.set f e=>f.Ok/\e.Ok|.nM f _ _=>f.Ok|.mN f l=>f.Ok/\l.length<=10/\∀x∈l,x.Vdt|.nat _ B ad _ E=>ad.Ok B/\E.length<=10|_=>True
noncomputable def Sm.iT:Sm->Bool|.cnt _ _=>ae|.dZ _ _ _=>ae|_=>aq
noncomputable def past(v:V):V:=open Classical in if v=Vd.cont.toV then .none else v
def dF(h:Hd)(a:Ab):Sm->V×Ab
 |.set f e=>tC h a f e
 |.H .none=>(rM NT,a)
 |.H .BK=>(match a.ct with
  |none=>fD
  |some _=>E6,a)
 |.H _=>(E6,a)
 |.nM f o n=>(match value h a f with
  |none=>fD
  |some k=>cond (o.fn k n) .none fD,a)
 |.mN f l=>(match hit h a f l with
  |none=>fD
  |some d=>past<|.tup d,a)
 |.log x y=>(.none,a.app<|.tup [.str x,.str y,nV h.now])
 |.pE=>(.none,match a.ct with
  |none=>{a with st:=64}
  |some _=>a)
 |.nat k B ad p E=>tE h a k B ad p E
 |.lN r=>match r with
  |.dY=>open Classical in if h.bG=.dY then(.tup [.str k_drop,.str k_],{a with rep:=a.rep++[.tup [.str r.word,.int r.code]]}) else(fD,a)
  |.ug=>cond h.ay (.tup [.str k_drop,.str k_],{a with rep:=a.rep++[.tup [.str r.word,.int r.code]]}) (fD,a)
  |.tL=>cond h.ay (fD,a) (.tup [.str k_drop,.str k_],{a with rep:=a.rep++[.tup [.str r.word,.int r.code]]})
  |.tU=>(.tup [.str k_drop,.str k_],{a with rep:=a.rep++[.tup [.str r.word,.int r.code]]})
 |.mO v=>(past v.toV,a)
 |.exp o=>(cond o .none fD,a.app<|.tup [.str m7,.str<|cond o BJ jE])
 |.pF=>(rM NU,a)
 |.dup=>(rM<|C0++Bl,a)
 |_=>(.none,a)
structure Vs(σ:Sg):Prop where
 ok:jM σ
 log:σ.L.log.length<1000
 rep:σ.L.rep.length<1000
 val:∀f,f.Ok->∀k,value σ.h σ.L f=aa k->k<2^128
theorem akG(n:Nat)(g:J)(ok:Vs σ)(place:V):∀{s:Sm},s.Ok->s.iT=aq->bq (n+6) xh [.ref 7,place,s.toV] (M σ g)=.ok (dF σ.h σ.L s).1 (M (σ.cf (dF σ.h σ.L s).2) g)
 |.set f e,B,_=>by
  exact enterQ [DA] (aM (akD n g ok.ok B.2 B.1) rfl)
 |.H b,_,_=>by
  induction b using Bd.casesOn with
  |BK=>
   refine enterQ [jx,j0] (aM (xr _ g ok.ok (f:=.kK) trivial) ?_);unfold dF value;dsimp only;induction S:σ.L.ct using aO with
   |none=>exact rfl
   |some k=>
    exact aM (oh _ _) rfl
  |_=>
   exact enterQ [jx] rfl
 |.nM f o k,B,_=>by
  refine enterQ [jx,C5] ?_;have P:=xr (n+2) g ok.ok B;have T:=ok.val f B;unfold dF;dsimp only;induction O:value σ.h σ.L f using aO with
  |none=>
   rw[O] at P;exact aM P rfl
  |some j=>
   rw[O] at P;refine aM P<|aM (akE _ (T j O) _ o) ?_;dsimp only;induction o.fn j k using aS<;>(exact rfl)
 |.mN f l,B,_=>by
  refine enterQ [s9] ?_;have E:=TA (n+1) g ok.ok B.1 (l:=l) (by have:=B.2.1;exact au (by assumption) (by decide));unfold dF;dsimp only;induction O:hit σ.h σ.L f l using aO with
  |none=>
   rw[O] at E;exact aM E rfl
  |some d=>
   rw[O] at E;refine bo (IM O) λx Y i=>?_;subst i;refine bu (B.2.2 x Y) λv P=>?_;have E:bq (n+5) s9 [.ref 7,f.toV,oH l] (M σ g)=.ok (.tup x.dat) (M σ g):=E;dsimp only;rw[<-P] at E⊢;induction v using Vd.casesOn with
   |cont=>
    rw[show past Vd.cont.toV=.none from aC rfl];rfl';refine aM E ?_;exact rfl
   |_=>
    rw[past,aB (by intro h;cases h)];rfl';refine aM E ?_;exact rfl
 |.log a b,_,_=>by
  refine enterQ [] ?_;refine eA (ez (l:=σ.L.log) rfl (by have:=ok.log;exact au (by assumption) (by decide)) _) ?_;exact rfl
 |.pE,_,_=>by
  refine enterQ [] ?_;unfold dF;dsimp only;induction S:σ.L.ct using aO with
  |none=>rfl';rw[S];rfl';rw[S];rfl
  |some k=>rfl';rw[S];exact rfl
 |.nat k m ad p q,B,_=>by
  exact enterQ [DB] (aM (akF n g ok.ok ok.log k B.1 p B.2) rfl)
 |.lN r,_,_=>by
  refine enterQ [] ?_;unfold dF;dsimp only;have t:=ok.rep;induction r using Rj.casesOn with
  |dY=>
   by_cases c:σ.h.bG=.dY
   ·rw[aC c];refine iK_f (by rw[c];decide) ?_;exact eA (ez (l:=σ.L.rep) rfl (by exact au (by assumption) (by decide)) _) rfl
   ·rw[aB c];exact iK_t (λh=>c<|AE h) rfl
  |tU=>
   exact eA (ez (l:=σ.L.rep) rfl (by exact au (by assumption) (by decide)) _) rfl
  |ug=>
   induction R:σ.h.ay using aS with
   |true=>
    rfl';rw[R];exact eA (ez (l:=σ.L.rep) rfl (by exact au (by assumption) (by decide)) _) rfl
   |false=>
    rfl';rw[R];exact rfl
  |tL=>
   induction R:σ.h.ay using aS with
   |false=>
    rfl';rw[R];exact eA (ez (l:=σ.L.rep) rfl (by exact au (by assumption) (by decide)) _) rfl
   |true=>
    rfl';rw[R];exact rfl
 |.mO v,_,_=>by
  refine enterQ [] ?_;unfold dF;dsimp only;induction v using Vd.casesOn with
  |cont=>
   rw[show past Vd.cont.toV=.none from aC rfl];exact rfl
  |_=>
   rw[past,aB (by intro h;cases h)];exact rfl
 |.exp o,_,_=>by
  refine enterQ [] ?_;induction o using aS<;>
  ·rfl';refine eA (ez (l:=σ.L.log) rfl (by have:=ok.log;exact au (by assumption) (by decide)) _) ?_;exact rfl
 |.pF,_,_=>by
  exact enterQ [] rfl
 |.dup,_,_=>by
  exact enterQ [] rfl
abbrev bD:V:=.inst fR 18
abbrev eS:V:=.inst j4 14
structure iE(σ:Sg):Prop where
 hd:r8 σ.h
 len:σ.h.len<=100
 aG:σ.h.aG+2<=σ.h.len
 aL:σ.P.aL.length=σ.h.len
 lt:∀b∈σ.P.aL,b<256
set_option tactic.hygienic true in
theorem Q0(hf:lF f)(ok:iE σ)(h:σ.h.eI f=aa s):s+f.many<=σ.h.len:=by
 unfold Hd.eI at h;have E:=ok.aG;have J:=ok.hd.jL;split at h
 ·rename_i e;have:=hf.ip e;induction B:σ.h.ay using aS<;>rw[B] at h<;>cases h
  exact au this<|au J<|au (cZ _ 2) E
 ·rename_i e;have:=hf.il e;induction B:σ.h.ay using aS<;>rw[B] at h<;>cases h
  exact au this<|au (dn (ok.hd.six B).symm)<|au (cZ _ 2) E
 ·split at h
  ·rename_i c;(have M:=bf h;subst M);exact c.2.2
  ·exact bk h
theorem akH{a e:Nat}{b:Int}(hb:b=e):iz .shr (nV a) (.int b)=aa (nV<|a/2^e):=by refine rwl hb ?_;refine(?_:(if 0<=(e:Int) then aa (cU a<|2^(e:Int).toNat) else ag).map V.int=_);rw[aC<|gg e,G4 ..,show((2:Int)^e)=((2^e:Nat):Int) by rw[X5 ..];rfl,m9 ..];rfl
theorem jC(h:m[r]?=aa (.bar l))(hl:l.length<=1000000):ma m (.ref r)=aa (nV l.length):=by unfold ma;rw[jd h];exact aC hl
theorem Ed(h:m[r]?=aa (.bar l))(hl:l.length<=1000000)(p1:ie lo=aa lo')(p2:ie hi=aa hi'):mv m (.ref r) lo hi=aa (.bar<|cut l lo' hi'):=by refine xK p1 p2 ?_;rw[jd h];exact aC hl
theorem Pn(n)(hb:∀b∈l,b<256)(hn:l.length<=100):bq (n+1) n5 [.bar l] m=.ok (nV<|num l) m:=
 Ov n (Jc (by intro i h;cases h) λm=>rfl) (λm=>rfl) (λm=>rfl) hb hn
theorem Sd(hb:∀b∈l,b<256)(hk:l.length<=k):num l<2^(8*k):=by refine cL (Jx l hb) ?_;rw[CS ..];exact uG (dl rfl) hk
theorem bits_is(n)(h:m[r]?=aa (.bar l))(hl:l.length<=100)(hb:∀b∈l,b<256)(hs:s<=100)(hk:k<=16):
  bq (n+2) zT [.ref r,nV<|8*s,nV<|8*k] m=.ok (if s+k<=l.length then nV (num<|(l.drop s).take k) else .none) m:=by
 refine enterQ [n5] ?_;rfl';rw[show cU ((8*s:Nat):Int) 8=(s:Int) by rw[show(8:Int)=((8:Nat):Int) from rfl,m9 ..,X6 s<|dl rfl],
  show cU (((8*s:Nat):Int)+((8*k:Nat):Int)+7) 8=((s+k:Nat):Int) by rw[show((8*s:Nat):Int)+((8*k:Nat):Int)+7=((8*s+8*k+7:Nat):Int) from rfl,show(8:Int)=((8:Nat):Int) from rfl,m9 ..,<-Nat.mul_add ..,GC<|dl rfl];rfl]
 have B:l.length<=1000000:=au hl<|dl rfl;refine aJ (jC h B) (cG (λc=>?_) λc=>?_)
 ·rw[aB<|Nat.not_le.mpr<|Int.ofNat_lt.mp c];exact rfl
 ·have E:=jV λq=>c<|Int.ofNat_lt.mpr q;have J:=au E hl;rw[aC E];rfl';have P:=jB (a:=8) (b:=s+k) (dl rfl)<|small<|bS J<|dl rfl;refine aJ P<|aJ (Ed h B (gw (k:=s)<|bS hs<|dl rfl)<|gw (k:=s+k)<|bS J<|dl rfl) ?_;rw[Jd ..];have M:∀b∈(l.drop s).take k,b<256:=λb h=>hb b<|rb<|k8 h;have O:((l.drop s).take k).length<=k:=by rw[gf];exact Hj _ _
  generalize(l.drop s).take k=x at*;refine aM (Pn n M<|au O<|au hk<|dl rfl) (aJ (akH (e:=0) (by lia))<|aJ (rH (a:=1) (b:=8*k) (fa (b:=1) (dl rfl)<|dl rfl)<|au (wz 8 hk)<|dl rfl) ?_);rfl';have R:0<2^(8*k):=nX<|dl rfl;rw[show(((1*2^(8*k):Nat):Int)-1)=((2^(8*k)-1:Nat):Int) from(aw (λz:Nat=>(z:Int)-1)<|zm _).trans (JK R),lp ..,Nat.pow_zero ..,XT ..,wR ..,wF<|Sd M O]
theorem qp(h:p):dP p=ae:=@decide_eq_true p (nO p) h
theorem rY(h:¬p):dP p=aq:=@decide_eq_false p (nO p) h
def Hd.meets(h:Hd):Fp->Bool|.ip=>h.ay|.il=>!h.ay|.tr p=>dP<|h.bG=p
theorem JC(n)(σ)(g):bq (n+5) gh [bD,.tup [.str lr,.str jw]] (M σ g)=.ok (.int<|cond σ.h.ay 2 10) (M σ g):=by
 refine enterQ [] ?_;rfl';induction B:σ.h.ay using aS with
 |true=>
  exact iK_t (dc rfl) rfl
 |false=>
  refine iK_f (dc rfl) ?_;refine iK_t (by rw[B];decide) ?_;exact rfl
theorem E7(n)(σ)(g):bq (n+5) gh [bD,.tup [.str lr,.str i9]] (M σ g)=.ok (.int σ.h.bG.num) (M σ g):=by refine enterQ [] ?_;refine iK_f (by induction σ.h.bG using Pr.casesOn<;>exact dc rfl) ?_;exact rfl
theorem Q1(n)(σ)(g)(hp:p≠.tr .gz):bq (n+6) uI [bD,.str p.word] (M σ g)=.ok (.bool<|σ.h.meets p) (M σ g):=by
 refine enterQ [gh] ?_;induction p using Fp.casesOn with
 |ip=>
  refine fj (show _=aa [.tup [.str jw,.int 2]] from rfl)<|aM (JC _ _ _) ?_;unfold Hd.meets;induction E:σ.h.ay using aS<;>(rfl'<;>rfl)
 |il=>
  refine fj (show _=aa [.tup [.str jw,.int 10]] from rfl)<|aM (JC _ _ _) ?_;unfold Hd.meets;induction E:σ.h.ay using aS<;>(rfl'<;>rfl)
 |tr q=>
  unfold Hd.meets;dsimp only;by_cases c:σ.h.bG=q
  ·rw[qp c];subst c;induction B:σ.h.bG using Pr.casesOn with
   |gz=>exact aT (by rw[B]) hp
   |_=>
    rfl';refine fj (l:=[.tup [.str i9,.int<|σ.h.bG.num]]) (by rw[B];rfl) ?_;rw[B];rfl';refine aM (E7 _ _ _) ?_;rfl';refine iK_f (λh=>h (by rw[B];rfl)) ?_;exact rfl
  ·rw[rY c];induction q using Pr.casesOn with
   |gz=>exact aT rfl hp
   |dY=>
    rfl';refine fj (show _=aa [.tup [.str i9,.int 6]] from rfl) ?_;rfl';refine aM (E7 _ _ _) ?_;rfl';exact iK_t (λh=>c<|AE h) rfl
   |e6=>
    rfl';refine fj (show _=aa [.tup [.str i9,.int 17]] from rfl) ?_;rfl';refine aM (E7 _ _ _) ?_;rfl';exact iK_t (λh=>c<|AE h) rfl
theorem Ki(n:Nat)(g:J)(ok:iE σ)(hs:s<=100)(hk:k<=16):bq (n+2) zT [.ref 15,nV<|8*s,nV<|8*k] (M σ g)=.ok (if s+k<=σ.h.len then nV (num<|(σ.P.aL.drop s).take k) else .none) (M σ g):=by rw[<-ok.aL];exact bits_is n rfl (au (dn ok.aL) ok.len) ok.lt hs hk
theorem jG(σ)(g)(x):M σ g++[x]=M σ (g++[x]):=by unfold M;induction σ.P.ct using aO<;>rfl
theorem ahH(h:m[j]?=aa (.aA l))(hl:l.length<100000)(x)(v):uS m (.ref j) (.str x) v=aa (m.set j<|.aA<|putD x v l):=by exact(aw (AU m j (.str x) v) h).trans (aC hl)
theorem ahI(h:v=.aA l)(k:B8 (look x l) y m K):FI v x y m K:=by subst h;exact k
theorem ahJ(h:m[j]?=aa (.aA l))(hx:look x l=aa v):ky m (.ref j) (.str x)=aa v:=by unfold ky;rw[jd h];exact hx
theorem ahK(n:Nat)(g:J)(ok:iE σ)(hf:lF f):bq (n+9) gh [bD,(Fd.o f).toV] (M σ g)=.ok (oV<|value σ.h σ.P<|.o f) (M σ g):=by
 refine enterQ [uI,zT] ?_;have Y:=ok.hd.aG;have d:=ok.len;have e:=hf.at_;rw[show value σ.h σ.P (.o f)=(σ.h.eI f).map λs=>num ((σ.P.aL.drop s).take f.many) from rfl];refine akA hf.field<|aM (Q1 _ σ g hf.tr) ?_;unfold Hd.eI Hd.meets;induction O:f.p using Fp.casesOn with
 |ip=>
  dsimp only;have B:=hf.ip O;induction R:σ.h.ay using aS with
  |false=>exact rfl
  |true=>
   rfl';refine iK_f (Int.not_lt.mpr<|gg _) ?_;rfl';rw[show V.int (0*8+((8*f.at_:Nat):Int))=nV (8*f.at_) from aw V.int (CT _)];refine aM (Ki _ g ok (au (au (cZ _ _) B)<|dl rfl) hf.many) ?_;rw[aC<|au B<|au ok.hd.jL<|au (cZ _ 2) ok.aG];exact rfl
 |il=>
  dsimp only;have B:=hf.il O;induction R:σ.h.ay using aS with
  |true=>exact rfl
  |false=>
   rfl';refine iK_f (Int.not_lt.mpr<|gg _) ?_;rfl';rw[show V.int (0*8+((8*f.at_:Nat):Int))=nV (8*f.at_) from aw V.int (CT _)];refine aM (Ki _ g ok (au (au (cZ _ _) B)<|dl rfl) hf.many) ?_;rw[aC<|au B<|au (dn (ok.hd.six R).symm)<|au (cZ _ 2) ok.aG];exact rfl
 |tr q=>
  dsimp only;by_cases c:σ.h.bG=q
  ·rw[qp c];induction S:σ.h.bx using aS with
   |true=>
    rw[aB λh=>by exact ia (h.2.1)];refine iK_t (by rw[Hd.off,S];exact(by decide:(-1:Int)<0)) ?_;exact rfl
   |false=>
    rfl';have T:σ.h.off=(σ.h.aG:Int):=by rw[Hd.off,S];rfl
    refine iK_f (Int.not_lt.mpr<|rwl T<|gg _)<|iK_f (Int.not_lt.mpr<|gg _) ?_;rw[T];refine aJ (jB (a:=σ.h.aG) (b:=8) (small<|bS ok.hd.aG<|dl rfl)<|dl rfl) ?_;rfl';rw[show V.int (((σ.h.aG*8:Nat):Int)+((8*f.at_:Nat):Int))=nV (8*(σ.h.aG+f.at_)) from aw nV ((aw (·+8*f.at_)<|zl _ 8).trans (Nat.mul_add 8 _ _).symm)];refine aM (Ki _ g ok (au (mX ok.hd.aG hf.at_)<|dl rfl) hf.many) ?_;by_cases E:σ.h.aG+f.at_+f.many<=σ.h.len
    ·rw[aC E,aC<|cv c rfl E];exact rfl
    ·rw[aB E,aB λh=>E h.2.2];exact rfl
  ·rw[rY c,aB λh=>c h.1];exact rfl
theorem Jf(n:Nat)(g:J)(ok:iE σ):∀{f:Fd},f.Ok->∃r,bq (n+9) gh [bD,f.toV] (M σ g)=.ok (oV<|value σ.h σ.P f) (M σ<|g++r)
 |.o f,S=>⟨[],by rw[gC ..];exact ahK n g ok S⟩
 |.cB,_=>by
  refine⟨[],?_⟩;rw[gC ..];exact enterQ [] rfl
 |.pri,_=>by
  refine⟨[],?_⟩;rw[gC ..];exact enterQ [] rfl
 |.len,_=>by
  refine⟨[],?_⟩;rw[gC ..];refine enterQ [] (aJ (jC (l:=σ.P.aL) rfl<|au (dn ok.aL)<|au ok.len<|dl rfl) ?_);rw[ok.aL];rfl
 |.st,_=>by
  refine⟨[],?_⟩;rw[gC ..];exact enterQ [] rfl
 |.l4,_=>by
  refine⟨[],?_⟩;rw[gC ..,show(Fd.l4).toV=.tup [.str lr,.str i9] from rfl,E7 (n+4) ..,rL ..];rfl
 |.nf,_=>by
  refine⟨[],?_⟩;rw[gC ..,show(Fd.nf).toV=.tup [.str lr,.str jw] from rfl,JC (n+4) ..];induction h:σ.h.ay using aS<;>(simp only[value,h];rfl)
 |.kK,_=>by
  obtain⟨T,at_,sum,V,Y,h,L,⟨aL,a,B,st,b,E,O⟩,c⟩:=σ;induction b using aO with
  |none=>
   refine⟨[],?_⟩;rw[gC ..];exact enterQ [] rfl
  |some k=>
   generalize R:Sg.mk T at_ sum V Y h L ⟨aL,a,B,st,aa k,E,O⟩ c=σ;refine⟨?_,?_⟩
   rotate_left
   ·refine enterQ [] (rws R (dQ (ahH X7 (cL (show 4<5 by decide)<|dl rfl) _ _) ?_));refine ahI (jd<|my X7) ?_;refine aJ (ahJ (my X7) rfl) ?_;rw[CU _ _<|dR _,k7 ..,apr,jG ..];rfl
noncomputable def Fd.dm:Fd->Nat|.o f=>f.many|.l4=>1|.nf=>1|_=>4
theorem akI(a k):cU (bX ((8*a:Nat):Int) 8+((8*k:Nat):Int)+7) 8=(k:Int):=by
 rw[show bX ((8*a:Nat):Int) 8=0 by rw[show(8:Int)=((8:Nat):Int) from rfl,oj ..];lia,
  show((0:Int)+((8*k:Nat):Int)+7)=((8*k+7:Nat):Int) by lia,show(8:Int)=((8:Nat):Int) from rfl,m9 ..]
 congr 1;lia
theorem Q2(n:Nat)(σ:Sg)(g:J)(o:Wo)(hf:f.Ok)(k:Nat):bq (n+5) Dx [bD,(Sr.kL o f k).toV] (M σ g)=.ok (nV f.dm) (M σ g):=by
 refine enterQ [] ?_;induction f using Fd.casesOn with
 |o f=>
  have B:=hf.many;have E:=hf.at_;induction o using Wo.casesOn<;>
  ·rfl';refine Gs<|ED hf.field<|aJ hf.field ?_;rfl';rw[akI ..];rfl
 |_=>
  induction o using Wo.casesOn<;>
  ·rfl';exact Gs rfl
theorem TC{f:Fd}(hf:f.Ok):f.dm<=16:=by induction f using Fd.casesOn with|o f=>exact hf.many|_=>unfold Fd.dm;decide
noncomputable def Ex(g g':J):Prop:=∃r,g'=g++r
theorem Ex.rfl:Ex g g:=⟨[],(gC g).symm⟩
theorem Ex.app(g r):Ex g (g++r):=⟨r,Eq.refl _⟩
theorem Ex.trans(h1:Ex a b)(h2:Ex b c):Ex a c:=by refine bu h1 λr B=>bu h2 λs E=>?_;subst B E;exact⟨r++s,iO _ _ _⟩
noncomputable def Kj(σ:Sg):Prop:=∀f,∀k,value σ.h σ.P f=aa k->k<2^(8*f.dm)
theorem acK(n:Nat)(g:J)(ok:iE σ)(hv:Kj σ)(o:Wo)(hf:f.Ok)(hk:k<2^(8*f.dm)):∃g',Ex g g'/\bq (n+10) DT [bD,(Sr.kL o f k).toV] (M σ g)=.ok (oV<|source σ.h σ.P<|.kL o f k) (M σ g'):=by
 refine bu (Jf n g ok hf) λr B=>i12 (g++r) (.app _ _) ?_;generalize g++r=g' at B⊢;have T:=TC hf;rw[show source σ.h σ.P (.kL o f k)=(value σ.h σ.P f).map λj=>o.fn j k from rfl];have E:=hv f;refine enterQ [gh,Dx] ?_;induction O:value σ.h σ.P f using aO with
 |none=>
  replace B:=(O)▸B;induction o using Wo.casesOn<;>
  ·rfl';exact aM B rfl
 |some j=>
  replace B:=(O)▸B;have E:=E j O;induction o using Wo.casesOn with
  |mask=>
   refine aM B ?_;rfl';rw[lp ..];rfl
  |or=>
   refine aM B (aM (Q2 (n+4) σ g' .or hf k) (aJ (jB (a:=8) (b:=f.dm) (dl rfl) (small (by exact bS (by assumption) (by decide)))) (aJ (rH (a:=1) (b:=8*f.dm) (fa (b:=1) (dl rfl)<|dl rfl) (by lia)) ?_)));rfl';have R:0<2^(8*f.dm):=nX<|dl rfl;rw[show(((1*2^(8*f.dm):Nat):Int)-1)=((2^(8*f.dm)-1:Nat):Int) by lia,Ay ..,lp ..,wR ..,wF<|NO E hk];rfl
  |xor=>
   refine aM B (aM (Q2 (n+4) σ g' .xor hf k) (aJ (jB (a:=8) (b:=f.dm) (dl rfl) (small (by exact bS (by assumption) (by decide)))) (aJ (rH (a:=1) (b:=8*f.dm) (fa (b:=1) (dl rfl)<|dl rfl) (by lia)) ?_)));rfl';have R:0<2^(8*f.dm):=nX<|dl rfl;have S:=NO E hk;rw[show(((1*2^(8*f.dm):Nat):Int)-1)=((2^(8*f.dm)-1:Nat):Int) by lia,QT ..,lp ..,wR ..,wF<|bS (gR _ _) S];rfl
noncomputable def Sr.jT:Sr->Prop|.kL _ f k=>k<2^(8*f.dm)|_=>True
theorem Se(n:Nat)(g:J)(ok:iE σ)(hv:Kj σ):∀{e:Sr},e.Ok->e.jT->∃g',Ex g g'/\bq (n+11) gh [bD,e.toV] (M σ g)=.ok (oV<|source σ.h σ.P e) (M σ g')
 |.num k,_,_=>by
  exact i12 g (.rfl)<|enterQ [] rfl
 |.fld f,h,_=>(Jf (n+2) g ok h).elim λZ h=>i12 _ (.app _ _) h
 |.kL o f k,h,B=>by
  refine bo (acK n g ok hv o h B) λg' E O=>i12 g' E<|enterQ [DT] ?_;induction o using Wo.casesOn<;>
  ·rfl';exact aM O rfl
theorem ahL(n:Nat)(a b:Nat)(m:J)(o:Cm):bq (n+1) Dy [.str o.word,nV a,nV b] m=.ok (.bool<|o.fn a b) m:=by
 refine enterQ [] ?_;induction o using Cm.casesOn with
 |any=>
  rfl';rw[lp ..];refine cG (λc=>?_) λc=>?_
  ·rfl';refine aw (λb=>R.ok (V.bool b) m) ?_;unfold Cm.fn;simp;lia
  ·rfl';refine aw (λb=>R.ok (V.bool b) m) ?_;unfold Cm.fn;simp;lia
 |none=>
  rfl';rw[lp ..];refine cG (λc=>?_) λc=>?_
  ·rfl';refine aw (λb=>R.ok (V.bool b) m) ?_;unfold Cm.fn;simp;lia
  ·rfl';refine aw (λb=>R.ok (V.bool b) m) ?_;unfold Cm.fn;simp;lia
 |_=>
  refine cG (λc=>?_) λc=>?_
  ·rfl';refine aw (λb=>R.ok (V.bool b) m) ?_;unfold Cm.fn;simp;lia
  ·rfl';refine aw (λb=>R.ok (V.bool b) m) ?_;unfold Cm.fn;simp;lia
theorem vw(h:b=ae)(p:k m a):B9 b k m K a:=by subst h;exact p
theorem qc(h:m[j]?=aa (.lst l)):d9 m (.ref j)=ae:=aw AI h
theorem Sf(h:m[j]?=aa (.lst l))(hl:l.length<=1000000):Am m (.ref j)=aa (.tup l):=by unfold Am;rw[jd h];exact aC hl
theorem qk(σ)(g r):M σ g++r=M σ (g++r):=by unfold M;induction σ.P.ct using aO<;>rfl
theorem mf(σ)(g)(x)(r):(M σ<|g++[x]++r)[(M σ g).length]?=aa x:=by rw[<-qk ..,<-qk ..,iO ..,nS<|dR _,k7 ..];rfl
theorem tV(σ)(g)(x y)(r):(M σ<|g++[x]++r).set (M σ g).length y=M σ (g++[y]++r):=by rw[<-qk ..,<-qk ..,<-qk ..,<-qk ..,iO ..,iO ..,CU _ _<|dR _,k7 ..];rfl
def anW:Option Nat->V|none=>.none|some k=>.tup [nV k]
theorem key_is(n:Nat)(g:J)(ok:iE σ)(hf:f.Ok):∃g',Ex g g'/\bq (n+10) rq [bD,f.toV] (M σ g)=.ok (anW<|value σ.h σ.P f) (M σ g'):=by
 refine bu (Jf n (g++[.lst []]) ok hf) λr B=>?_;induction E:value σ.h σ.P f using aO with
 |none=>
  replace B:=(E)▸B;refine i12 (g++[.lst []]++r) (.trans (.app _ _)<|.app _ _)<|enterQ [gh] ?_;rfl';rw[jG ..];exact fj (l:=[f.toV]) (by rfl)<|aM B rfl
 |some k=>
  replace B:=(E)▸B;refine i12 (g++[.lst [nV k]]++r) (.trans (.app _ _)<|.app _ _)<|enterQ [gh] ?_;rfl';rw[jG ..];refine fj (l:=[f.toV]) (by rfl)<|aM B<|vw (qc<|mf σ g _ r)<|eA (ez (l:=[]) (mf σ g _ r) (dl rfl) _) ?_;rw[tV ..];exact aJ (Sf (l:=[nV k]) (mf σ g _ r) (show 1<=1000000 by decide)) rfl
theorem akJ(n)(lo hi k)(m):bq (n+1) DG [.tup [.tup [nV lo,nV hi]],.tup [nV k]] m=.ok (.bool<|decide<|lo<=k/\k<=hi) m:=by
 refine enterQ [] ?_;rfl';have B:=qA (n:=1)<|dl rfl;refine fj (B m) (j6 (kg B rfl) (λi x=>[.val<|.tup [.tup [nV lo,nV hi]],.val<|.tup [nV k],x]) (λZ Z=>m) (λi Z=>i=0\/lo<=k/\k<=hi) ?_ ?_ _ (.inl rfl) rfl rfl)
 ·intro i v x J E K hK;refine m8 J λhi M=>rwl M ?_;obtain rfl:i=0:=by lia
  refine cG (λc=>?_) λc=>?_
  ·rfl';rw[decide_eq_false (by lia)]
  ·rfl';refine cG (λO=>?_) λO=>?_
   ·rfl';rw[decide_eq_false (by lia)]
   ·rfl';exact hK _ (.inr (by lia))
 ·intro x E;rfl';rw[decide_eq_true (E.resolve_left (by rw[bJ ..,iL];decide))]
theorem Q3(n)(g)(hl:l.length<=100)(k):bq (n+2) uU [bD,.tup [.str rW,oH l],.tup [nV k]] (M σ g)=.ok (KW ((l.find?<|Li.has k).map (·.dat))) (M σ g):=by
 refine enterQ [DG] ?_;have E:∀m,ei m (oH l)=aa (l.map Li.toV):=λm=>aC (by rw[bJ ..];exact au (by assumption) (by decide));refine fj (E _) (j6 (kg E rfl) (λi (q:Sl×Sl)=>[.val bD,.val<|.tup [.str rW,oH l],.val<|.tup [nV k],q.1,q.2]) (λZ Z=>M σ g) (λi Z=>(l.take i).find? (Li.has k)=ag) ?_ ?_ (_,_) rfl rfl rfl)
 ·intro i v Z P B K hK;refine xt P λq J R=>rwl R<|aM (akJ n q.lo q.hi k _) ?_;induction O:decide (q.lo<=k/\k<=q.hi) using aS with
  |true=>
   rw[Sa B J O];rfl
  |false=>
   exact hK (Z.1,.val q.toV)<|Sb B J O
 ·intro Z B;rw[bJ,lR] at B;rw[B];rfl
noncomputable def Sg.bD(σ:Sg)(a:Ab):Sg:={σ with P:=a}
inductive fN(σ:Sg)(nC:J):V×Ab->R V->Prop where|nx{a:Ab}{g:J}(hg:Ex nC g):fN σ nC (.none,a) (.ok .none<|M (σ.bD a) g)|ct{a:Ab}{g:J}(hg:Ex nC g):fN σ nC (.none,a) (.ok Vd.cont.toV<|M (σ.bD a) g)|rt{a:Ab}{g:J}{w x:Nm}(hg:Ex nC g)(h:w≠m5):fN σ nC (.tup [.str w,.str x],a) (.ok (.tup [.str w,.str x])<|M (σ.bD a) g)|ex{a:Ab}{g:J}{why:Nm}(hg:Ex nC g):fN σ nC (rM why,a) (.exc why<|M (σ.bD a) g)
theorem fN.br(hg:Ex b g):fN σ b (fD,a) (.ok fD<|M (σ.bD a) g):=.rt hg (by intro h;exact aT h (dc rfl))
theorem fN.past(hg:Ex b g)(v:Vd):fN σ b (past v.toV,a) (.ok v.toV<|M (σ.bD a) g):=by induction v using Vd.casesOn with|cont=>rw[show Internal.past Vd.cont.toV=.none from aC rfl];exact .ct hg|_=>rw[Internal.past,aB (by intro h;cases h)];exact .rt hg (by intro h;exact aT h (dc rfl))
structure BL(σ:Sg):Prop where
 ok:iE σ
 val:Kj σ
 log:σ.P.log.length<1000
 rep:σ.P.rep.length<1000
section
variable(n:Nat){σ:Sg}(g:J)(ok:BL σ)(rule place:V)
include ok
theorem aeL(hf:f.Ok):fN σ g (dF σ.h σ.P<|.nM f o k) (bq (n+11) xg [bD,(Sm.nM f o k).toV,rule,place] (M σ g)):=by
 refine bo (key_is n g ok.ok hf) λO E B=>enter [rq,Dy] ?_;unfold dF;dsimp only;induction J:value σ.h σ.P f using aO with
 |none=>
  replace B:=(J)▸B;exact aM B<|.br E
 |some j=>
  replace B:=(J)▸B;refine aM B<|aM (ahL _ j k _ o) ?_;dsimp only;induction o.fn j k using aS
  ·rfl';exact .br E
  ·rfl';exact .nx E
theorem ahM(hs:(Sm.mN f l).Ok):fN σ g (dF σ.h σ.P<|.mN f l) (bq (n+11) xk [bD,(Sm.mN f l).toV,rule,place] (M σ g)):=by
 refine bo (key_is n g ok.ok hs.1) λS J B=>enter [rq,uU] ?_;unfold dF hit;dsimp only;induction R:value σ.h σ.P f using aO with
 |none=>
  replace B:=(R)▸B;exact aM B<|.br J
 |some j=>
  replace B:=(R)▸B;have E:=Q3 (n+8) (σ:=σ) S (l:=l) (by have:=hs.2.1;exact au (by assumption) (by decide)) j;dsimp only;induction O:l.find? (Li.has j) using aO with
  |none=>
   replace E:=(O)▸E;exact aM B<|aM E<|.br J
  |some x=>
   replace E:=(O)▸E;refine bu (hs.2.2 x<|CF O) λv T=>?_;refine aM B<|aM E ?_;dsimp only[zf,KW];rw[<-T];induction v using Vd.casesOn<;>
   ·rfl';exact .past J _
theorem abw(v:Vd):fN σ g (dF σ.h σ.P<|.mO v) (bq (n+11) wY [bD,(Sm.mO v).toV,rule,place] (M σ g)):=by
 refine enter [] ?_;induction v using Vd.casesOn<;>
 ·rfl';exact .past .rfl _
theorem akK(a b):fN σ g (dF σ.h σ.P<|.log a b) (bq (n+11) xo [bD,(Sm.log a b).toV,rule,place] (M σ g)):=by refine enter [] ?_;refine eA (ez (l:=σ.P.log) rfl (by have:=ok.log;exact au (by assumption) (by decide)) _) ?_;exact .nx (σ:=σ) (a:=σ.P.app _) (g:=g) .rfl
theorem abx:fN σ g (dF σ.h σ.P .pE) (bq (n+11) wZ [bD,Sm.pE.toV,rule,place] (M σ g)):=by
 refine enter [] ?_;obtain⟨R,at_,sum,S,T,h,L,⟨aL,O,B,st,Y,E,J⟩,V⟩:=σ;induction Y using aO with
 |none=>
  exact .nx (σ:=⟨R,at_,sum,S,T,h,L,⟨aL,O,B,st,ag,E,J⟩,V⟩) (a:=⟨aL,O,B,64,ag,E,J⟩) (g:=g) .rfl
 |some k=>
  exact .nx (σ:=⟨R,at_,sum,S,T,h,L,⟨aL,O,B,st,aa k,E,J⟩,V⟩) (a:=⟨aL,O,B,st,aa k,E,J⟩) (g:=g) .rfl
theorem akL(o):fN σ g (dF σ.h σ.P<|.exp o) (bq (n+11) pZ [bD,(Sm.exp o).toV,rule,place] (M σ g)):=by
 refine enter [] ?_;induction o using aS
 ·rfl';refine eA (ez (l:=σ.P.log) rfl (by have:=ok.log;exact au (by assumption) (by decide)) _) ?_;exact .br (σ:=σ) (a:=σ.P.app _) (g:=g) .rfl
 ·rfl';refine eA (ez (l:=σ.P.log) rfl (by have:=ok.log;exact au (by assumption) (by decide)) _) ?_;exact .nx (σ:=σ) (a:=σ.P.app _) (g:=g) .rfl
theorem ahN:fN σ g (dF σ.h σ.P .pF) (bq (n+11) pZ [bD,Sm.pF.toV,rule,place] (M σ g)):=enter [] (.ex (σ:=σ) (a:=σ.P) (g:=g) .rfl)
end
theorem aeM(he:e<=w)(ha:a<2^w):a&&&(2^w-2^e)=a/2^e*2^e:=by
 have h:2^w-2^e=(2^(w-e)-1)*2^e:=by rw[Nat.sub_mul ..,<-Nat.pow_add ..,NP he,zm ..]
 rw[h];refine apu λi=>?_;rw[X1 ..,apy ..,apy ..,Nat.testBit_two_pow_sub_one ..,Nat.testBit_div_two_pow ..];by_cases c:e<=i
 ·rw[decide_eq_true c,MW,MW,NP c];by_cases B:i<w
  ·rw[decide_eq_true<|Nat.sub_lt_sub_right c B,Cv ..]
  ·rw[apw<|cL ha<|uG (dl rfl)<|jV B,Ha ..]
 ·rw[decide_eq_false c,Ha ..,Ha ..,y6 ..]
theorem amJ{a b:Nat}(h:0<b):((a:Int)+((1*b:Nat):Int)-1)=((a+b-1:Nat):Int):=(aw (λz:Nat=>(a:Int)+z-1)<|zm b).trans<|vD h
theorem uX(h:l.length<=100):mv m (.tup (a::l)) (aa<|.int 1) ag=aa (.tup l):=by rw[I7,show ie (aa<|.int 1)=aa (aa 1) from gw (k:=1) (dl rfl)];exact aC (cv (dR _) (by simp) (by rw[jZ];exact au (gZ h) (dl rfl)))
section
variable(n:Nat){σ:Sg}(g:J)(ok:BL σ)(rule place:V)
include ok
theorem akM:bq (n+1) zC [eS] (M σ g)=.ok (.int<|cond σ.h.ay 2 10) (M σ g):=by
 clear ok;refine enterQ [] ?_;rfl';induction B:σ.h.ay using aS with
 |true=>
  exact iK_t (dc rfl) rfl
 |false=>
  refine iK_f (dc rfl) ?_;refine iK_t (by rw[B];decide) ?_;exact rfl
theorem akN(r):fN σ g (dF σ.h σ.P<|.lN r) (bq (n+11) xc [bD,(Sm.lN r).toV,rule,place] (M σ g)):=by
 refine enter [zC] ?_;unfold dF;dsimp only;have J:=ok.rep;have B:=akM (n+9) g ok;induction r using Rj.casesOn with
 |dY=>
  by_cases c:σ.h.bG=.dY
  ·rw[aC c];refine iK_f (by rw[c];decide) ?_;refine eA (ez (l:=σ.P.rep) rfl (by exact au (by assumption) (by decide)) _) ?_;rfl';exact .rt (σ:=σ) (a:={σ.P with rep:=σ.P.rep++[_]}) (g:=g) .rfl (by intro h;exact aT h (dc rfl))
  ·rw[aB c];exact iK_t (λh=>c<|AE h)<|.br .rfl
 |tU=>
  refine eA (ez (l:=σ.P.rep) rfl (by exact au (by assumption) (by decide)) _) ?_;exact .rt (σ:=σ) (a:={σ.P with rep:=σ.P.rep++[_]}) (g:=g) .rfl (by intro h;exact aT h (dc rfl))
 |ug=>
  induction E:σ.h.ay using aS with
  |true=>
   replace B:=(E)▸B;refine aM B ?_;rfl';refine eA (ez (l:=σ.P.rep) rfl (by exact au (by assumption) (by decide)) _) ?_;exact .rt (σ:=σ) (a:={σ.P with rep:=σ.P.rep++[_]}) (g:=g) .rfl (by intro h;exact aT h (dc rfl))
  |false=>
   replace B:=(E)▸B;refine aM B ?_;rfl';exact .br .rfl
 |tL=>
  induction E:σ.h.ay using aS with
  |false=>
   replace B:=(E)▸B;refine aM B ?_;rfl';refine eA (ez (l:=σ.P.rep) rfl (by exact au (by assumption) (by decide)) _) ?_;exact .rt (σ:=σ) (a:={σ.P with rep:=σ.P.rep++[_]}) (g:=g) .rfl (by intro h;exact aT h (dc rfl))
  |true=>
   replace B:=(E)▸B;refine aM B ?_;rfl';exact .br .rfl
omit ok in
theorem TF{w a k:Nat}(c:w<=128)(hk:k<=w)(ha:a<2^w)(m):bq (n+2) wV [nV a,nV k,nV w] m=.ok (.tup [nV<|a/2^(w-k)*2^(w-k),nV<|a/2^(w-k)*2^(w-k)+2^(w-k)-1]) m:=by refine enterQ [] ?_;rfl';refine aJ (rH (a:=1) (b:=w) (fa (b:=1) (dl rfl)<|dl rfl)<|au c<|dl rfl) ?_;rfl';have B:=l9 hk;have E:w-k<=1024:=au (gR _ _)<|au c<|dl rfl;rw[B];refine aJ (rH (a:=1) (b:=w-k) (fa (b:=1) (dl rfl)<|dl rfl) E) ?_;rfl';rw[B];refine aJ (rH (a:=1) (b:=w-k) (fa (b:=1) (dl rfl)<|dl rfl) E) ?_;rfl';have J:0<2^(w-k):=nX<|dl rfl;have g:2^(w-k)<=2^w:=uG (dl rfl)<|gR _ _;rw[show(((1*2^w:Nat):Int)-((1*2^(w-k):Nat):Int))=((2^w-2^(w-k):Nat):Int) by rw[zm ..,zm ..];exact l9 g,lp ..,amJ J,aeM (gR _ _) ha]
theorem aeN(hs:(Sm.nat kind nf ad d i).Ok):fN σ g (dF σ.h σ.P<|.nat kind nf ad d i) (bq (n+12) xq [bD,(Sm.nat kind nf ad d i).toV,rule,place] (M σ g)):=by
 have u:=ok.log;refine enter [rq,uU,wV] ?_;unfold dF;dsimp only;induction ad using Ad.casesOn with
 |none=>
  rfl';refine aJ (uX (show 5<=100 by decide)) ?_;rfl';refine eA (ez (l:=σ.P.log) rfl (by exact au (by assumption) (by decide)) _) ?_;rfl';exact .rt (σ:=σ) (a:=σ.P.app _) (g:=g) .rfl (by intro h;exact aT h (dc rfl))
 |span a b=>
  rfl';refine aJ (uX (show 5<=100 by decide)) ?_;rfl';refine eA (ez (l:=σ.P.log) rfl (by exact au (by assumption) (by decide)) _) ?_;rfl';exact .rt (σ:=σ) (a:=σ.P.app _) (g:=g) .rfl (by intro h;exact aT h (dc rfl))
 |pC a k=>
  refine gl λr S=>?_;refine aW hs λT p=>?_;refine aW T λJ O=>?_;refine S ?_;have V:∀(nn)(K),K (.ok (.tup [nV<|a/2^(width nf-k)*2^(width nf-k),nV<|a/2^(width nf-k)*2^(width nf-k)+2^(width nf-k)-1])<|M σ g)->
    kE aR (kF aR bN (λy=>[rq,uU,wV].contains y)<|nn+2) (.call (.dB wV) [(.sub (.ba 4)<|.bU<|.int 1),(.sub (.ba 4)<|.bU<|.int 2),(.ite (.cmp .eq (.ba 3)<|.bU<|.int 2) (.bU<|.int 32)<|.bU<|.int 128)])
     [.val bD,.val (Sm.nat kind nf (.pC a k) d i).toV,.val<|.str kind,.val<|nV nf,.val (Ad.pC a k).toV,.val<|ly d,.val<|.tup i,.val .none,.val .none,.un,.un] (M σ g) K:=by
   intro nn K;refine λhK=>cG (λc=>?_) λc=>?_
   ·rw[show width nf=32 from aC (i8 c)] at J O hK;exact aM (TF (w:=32) nn (dl rfl) J O _) hK
   ·rw[show width nf=128 from aB λh=>c<|aw nY h] at J O hK;exact aM (TF (w:=128) nn (dl rfl) J O _) hK
  refine aJ (uX (show 5<=100 by decide)) (V _ _ (aJ (Qa<|au (gZ p)<|dl rfl) (eA (ez (l:=σ.P.log) rfl (by exact au (by assumption) (by decide)) _) ?_)));rfl';exact .rt (σ:=σ) (a:=σ.P.app _) (g:=g) .rfl (by intro h;exact aT h (dc rfl))
 |map f l=>
  refine gl λr S=>?_;refine aW hs λT p=>?_;refine fW T λs v t=>?_;refine bo (key_is n g ok.ok s) λY R E=>?_;refine S ?_;unfold tE hit;dsimp only;induction q:value σ.h σ.P f using aO with
  |none=>
   replace E:=(q)▸E;rfl';refine aJ (uX (show 5<=100 by decide)) ?_;rfl';refine aM E ?_;rfl';exact .br R
  |some j=>
   replace E:=(q)▸E;have B:=Q3 (n+8) (σ:=σ) Y (l:=l) (by exact au (by assumption) (by decide)) j;dsimp only;induction m:l.find? (Li.has j) using aO with
   |none=>
    replace B:=(m)▸B;rfl';refine aJ (uX (show 5<=100 by decide)) ?_;rfl';refine aM E ?_;rfl';refine aM B ?_;rfl';exact .br R
   |some x=>
    replace B:=(m)▸B;refine bZ (t x<|CF m) (λo=>bu o λa e=>?_) λo=>iX o λa b e=>?_
    ·dsimp only[zf] at B⊢;rw[e] at B⊢;refine aJ (uX (show 5<=100 by decide)) ?_;rfl';refine aM E ?_;rfl';refine aM B ?_;rfl';refine iK_f (show¬(1:Int)<1 by decide) ?_;rfl';refine eA (ez (l:=σ.P.log) rfl (by exact au (by assumption) (by decide)) _) ?_;rfl';exact .rt (σ:=σ) (a:=σ.P.app _) (g:=Y) R (by intro h;exact aT h (dc rfl))
    ·dsimp only[zf] at B⊢;rw[e] at B⊢;refine aJ (uX (show 5<=100 by decide)) (aM E (aM B (iK_t (show(1:Int)<2 by decide) (eA (ez (l:=σ.P.log) rfl (by exact au (by assumption) (by decide)) _) ?_))));exact .rt (σ:=σ) (a:=σ.P.app _) (g:=Y) R (by intro h;exact aT h (dc rfl))
end
theorem fE(a:List Nm)(h:kF aR bN (λy=>a.contains y) n x l m (λr=>r=b)):bq n x l m=b:=enter a (K:=λr=>r=b) h
noncomputable def kM(t:Nat):Nat:=if t=0 then 0 else(t-1)%65535+1
theorem akO(h:t<65536):kM t=t:=by
 unfold kM;by_cases c:t=0
 ·rw[aC c,c]
 ·rw[aB c];exact(aw (·+1)<|wF<|Nat.pred_lt_pred c h).trans (Nat.succ_pred c)
theorem Vt(t):t=t%65536+t/65536+65535*(t/65536):=
 (X8 t 65536).symm.trans ((aw (t%65536+·)<|(GG 65535 _).trans<|jY _ _).trans (lS _ _ _).symm)
theorem TG(h:65536<=t):1<=t%65536+t/65536:=au (X9 h<|dl rfl)<|wQ _ _
theorem aeO(h:65536<=t):kM (t%65536+t/65536)=kM t:=by unfold kM;rw[aB<|zg<|TG h,aB λe=>aT (e▸h)<|dc rfl];exact aw (·+1) ((apz _ 65535 _).symm.trans (aw (·%65535) ((Nq<|TG h).symm.trans (aw (·-1) (Vt t).symm))))
theorem TH(t):kM t<=65535:=by
 unfold kM;by_cases c:t=0
 ·rw[aC c];exact nP _
 ·rw[aB c];exact sW _<|dl rfl
theorem amK(h:65536<=t)(a:t<=65535*(k+1)):t%65536+t/65536<=65535*k:=by have q:=X9 h<|dl rfl;exact Nat.le_of_add_le_add_right<|au (au (kZ (wz 65535 q) _)<|dn (Vt t).symm) a
theorem Ut(t:Nat):cU (t:Int) (2^uF 16)=((t/65536:Nat):Int):=m9 t 65536
theorem acL(n)(a:t<=60000000)(m):bq (n+1) DS [nV t] m=.ok (nV<|kM t) m:=by
 refine enterQ [] ?_;have key:∀(k t)(K),t<=65535*k->K (.nx [.val<|nV<|kM t] m)->vb (kE aR (kF aR bN (λy=>[].contains y) n)<|.cmp .ne (.bin .shr (.ba 0)<|.bU<|.int 16)<|.bU<|.int 0)
   (kB aR (kF aR bN (λy=>[].contains y) n) [.aQ (.nm 0)<|.bin .add (.bin .band (.ba 0)<|.bU<|.int 65535)<|.bin .shr (.ba 0)<|.bU<|.int 16]) K (k+1) [.val<|nV t] m:=by
  intro k;induction k with
  |zero=>
   intro t K a hK;obtain rfl:t=0:=Nat.le_zero.mp a;rfl';exact hK
  |succ k E=>
   intro t K a hK;rfl';rw[Ut ..];refine cG (λc=>?_) λc=>?_
   ·rfl';rw[Ut ..,show((65535:Int))=((2^16-1:Nat):Int) from rfl,lp ..,wR ..];have B:=jV λh=>c (by rw[Hg h];rfl);refine E (t%65536+t/65536) K (amK B a) ?_;rw[aeO B];exact hK
   ·rfl';have B:t<65536:=by
     exact zk λh=>zg (X9 h<|dl rfl)<|i8<|apF.mp c
    replace hK:=(akO B)▸hK;exact hK
 exact Gs<|key 999 t _ (au a<|dl rfl) rfl
def vx(c:Nat)(a b:z0):Nat:=65535-c+a.length/2*65535-b9 a+b9 b
def yh(c:Nat)(a b:z0):Nat:=65535-kM (vx c a b)
theorem EG(h:l[i]?=aa x)(hi:i<1000000):ky m (.bb l) (nV i)=aa (nV x):=by refine(?_:(r7 l (i:Int)).map (λ(b:Nat)=>V.int b)=_);rw[tK h hi];rfl
theorem AF:∀{l},(∀b∈l,b<256)->b9 l<=(l.length+1)/2*65535
 |[],_=>dR _
 |[a],h=>by
  have:=h a dE;rw[show([a].length+1)/2=1 from aw (λn=>(n+1)/2) (show[a].length=1 from rfl)];exact au (pU 256<|lP this)<|dl rfl
 |a::b::r,h=>by
  have B:=h a dE;have E:=h b<|dT _ dE;have J:=AF λx M=>h x<|dT _<|dT _ M;exact au (mX (mX (pU 256<|lP B)<|lP E) J) (dn ((jY _ _).trans ((GG _ _).symm.trans (aw (·*65535) (WS (r.length+1)<|dl rfl).symm))))
theorem acM{l:z0}(h:∀b∈l,b<256)(i):b9 (l.take<|2*i)<=i*65535:=by have:=AF λb B=>h b<|k8 (i:=2*i) B;refine au this<|pU _ ?_;rw[gf];exact afj<|Hj _ _
theorem E8(h:i+1<l.length):w2 l i=l[i]'(jv h)*256+l[i+1]'h:=by unfold w2;rw[fy,fy,cT<|jv h,cT h];rfl
theorem w_shl{a b:Nat}(h:b<256):GO ((a*2^8:Nat):Int) (b:Int)=((a*256+b:Nat):Int):=by rw[Ay ..,R2 h]
theorem ot(h:l.length<=1000000):ma m (.bb l)=aa (nV l.length):=aC h
theorem akP{P w w' x y k:Nat}(h1:w<=P)(h2:x<=k):P+k-(w+x)+(w'+y)+x=P-w+w'+k+y:=by lia
theorem akQ{A ah x y k:Nat}(h:ah+x=A+k+y):(A:Int)+k-x+y=ah:=by lia
theorem Uu{a b:Nat}(h1:a<256)(h2:b<256):a*256+b<=65535:=mX (pU 256<|lP h1)<|lP h2
theorem ahO{c n w w':Nat}(h:n<=100)(w2:w'<=(n+1)/2*65535):65535-c+n/2*65535-w+w'<=60000000:=
 au (mX (au (gR _ _)<|mX (gR 65535 c)<|pU _<|wU (c:=2) h)<|au w2<|pU _<|wU (c:=2)<|gZ h) (dl rfl)
theorem ahP(n){c:Nat}(hc:c<=65535)(ha:∀x∈a,x<256)(hb:∀x∈b,x<256)(hl:a.length=b.length)(h2:a.length%2=0)(d:a.length<=100)(m):
  bq (n+2) vf [nV c,.bb a,.bb b] m=.ok (nV<|yh c a b) m:=by
 refine enterQ [DS] ?_;have J:a.length<=1000000:=au d<|dl rfl;refine aJ (ot J) (aJ (ot<|rws hl J) (iK_f (λh=>h<|aw nY hl)<|aJ (ot J) ?_));refine iK_f (by rw[show bX (a.length:Int) 2=((a.length%2:Nat):Int) from oj _ 2,h2];decide) ?_;refine aJ (ot J) ?_;have O:=Vp (n:=a.length)<|bS d<|dl rfl;refine fj (O _) ?_;rw[show((65535:Int)-(c:Int))=((65535-c:Nat):Int) from l9 hc];refine j6 (kg O rfl) (λi x=>[.val<|nV c,.val<|.bb a,.val<|.bb b,.val<|nV<|65535-c+i*65535-b9 (a.take<|2*i)+b9 (b.take<|2*i),x]) (λZ Z=>m) (λZ Z=>True) ?_ ?_ .un trivial ?_ rfl
 ·intro i v Z Y Z K hK;refine m8 Y λe f=>rwl f ?_;have B:=half_lt h2 e;have E:=hl▸B;have M:=d7 B (bS d (by decide:100<1000000));have P:=ha _<|nW<|jv B;have S:=ha _<|nW B;have g:=hb _<|nW<|jv E;have b2:=hb _<|nW E;have j:=acM ha i;refine aJ (EG (cT<|jv B)<|jv M) ?_;refine aJ (rH (b:=8) (fa (b:=8) (dl rfl) P)<|dl rfl)<|aJ (EG (i:=2*i+1) (cT B) M) ?_;refine aJ (EG (cT<|jv E)<|jv M) ?_;refine aJ (rH (b:=8) (fa (b:=8) (dl rfl) g)<|dl rfl)<|aJ (EG (i:=2*i+1) (cT E) M) ?_;refine Wq ?_<|hK (.val<|nV<|2*i) trivial;rw[w_shl S,w_shl b2,Jb B,Jb E,E8 B,E8 E];have T:=akP (w':=b9<|b.take<|2*i) (y:=b[2*i]'(jv E)*256+b[2*i+1]'E) (au j<|wQ _<|65535-c)<|Uu P S;rw[lS<|65535-c,<-GG i] at T;exact aw (λz=>[_,_,_,Sl.val<|V.int z,_])<|akQ T
 ·intro x Z;rw[bJ ..,iL,IY h2,sQ<|dn (Ak h2).symm,sQ<|rws hl<|dn (Ak h2).symm];have k:=AF ha;have w2:=AF hb;refine aM (acL n (t:=vx c a b) (ahO d<|rwl hl w2) _) ?_;have:=TH<|vx c a b;exact aw (λz=>R.ok (V.int z) m)<|l9 this
 ·exact aw (λz=>[_,_,_,Sl.val<|nV z,_]) (show _=65535-c+0*65535-0+0 by rw[NQ];rfl)
noncomputable def cS(b e lo hi:Nat):Nat×Nat:=if min e hi<=max b lo then(0,0) else(max b lo/2*2,(min e hi+1)/2*2)
def sD(p:Nat×Nat):V:=.tup [nV p.1,nV p.2]
theorem DI(n)(h1:b<1000)(h2:e<1000)(a:lo<1000)(m):bq (n+1) lW [nV b,nV e,nV lo,nV hi] m=.ok (sD<|cS b e lo hi) m:=by
 refine enterQ [] ?_;rfl';rw[ak2 b lo,ak3 e hi];unfold cS;refine cG (λc=>?_) λc=>?_
 ·rfl';rw[aC<|Int.ofNat_le.mp c];rfl
 ·rw[aB λh=>c<|Int.ofNat_le.mpr h];rfl';rw[show cU ((max b lo:Nat):Int) 2=((max b lo/2:Nat):Int) from m9 _ 2];refine aJ (jB (b:=2) (fa (b:=10) (dl rfl)<|bS (Hi _ 2)<|d7 (Nat.max_lt.mpr ⟨h1,a⟩)<|dl rfl)<|dl rfl) ?_;rw[show cU (((min e hi:Nat):Int)+1) 2=(((min e hi+1)/2:Nat):Int) from m9 (min e hi+1) 2];exact aJ (jB (b:=2) (fa (b:=10) (dl rfl)<|bS (Hi _ 2)<|bS (gZ<|Hj _ _)<|d7 (WR h2)<|dl rfl)<|dl rfl) rfl
def jm(l:z0)(f b:Nat):z0:=if (cut l (aa f)<|aa b).length<b-f then cut l (aa f) (aa b)++[0] else cut l (aa f) (aa b)
theorem ahQ(h:o=aa r)(p:if k<e.length then pq (e.set k<|.val r) λe=>K (.nx e m) else K .H):KU o e k m K:=by subst h;exact p
theorem anX(h:a.length+b.length<=1000):t5 (.bb a) (.bb b)=aa (.bb<|a++b):=by unfold t5;dsimp only;rw[aC h]
theorem Sh(v e:Nat):cU (v:Int) ((2:Int)^((e:Nat):Int).toNat)=((v/2^e:Nat):Int):=by rw[G4 ..,show((2:Int)^e)=((2^e:Nat):Int) by rw[X5 ..];rfl,m9 ..]
theorem Q4(n:Nat)(hl:l.length<=100)(hf:f<=b)(h1:mv m v (aa<|nV f) (aa<|nV b)=aa w)(h2:lq m w=aa (.bb<|cut l (aa f)<|aa b)):
  bq (n+1) pY [v,nV f,nV b] m=.ok (.bb<|jm l f b) m:=by
 have B:(cut l (aa f)<|aa b).length<=100:=au zL hl;unfold jm;refine fE [] ?_;generalize cut l (aa f) (aa b)=o at*;refine aJ h1 (aJ h2 (aJ (ot<|au B<|dl rfl) (cG (λc=>?_) λc=>?_)))
 ·rw[aC (Int.ofNat_lt.mp (l9 hf▸c))];exact ahQ (anX<|au (gZ B)<|dl rfl) rfl
 ·rw[aB λh=>c<|rwl (l9 hf)<|Int.ofNat_lt.mpr h];exact rfl
theorem Q5(n)(hl:l.length<=100)(hf:f<=b)(hv:mv m v (aa<|nV f) (aa<|nV b)=aa (.bb<|cut l (aa f)<|aa b)\/mv m v (aa<|nV f) (aa<|nV b)=aa (.bar<|cut l (aa f)<|aa b)):
  bq (n+1) pY [v,nV f,nV b] m=.ok (.bb<|jm l f b) m:=by
 refine bZ hv (λh=>?_) λh=>?_
 ·exact Q4 n hl hf h rfl
 ·exact Q4 n hl hf h<|aC<|au zL<|au hl<|dl rfl
theorem ahR(k n):(bH<|eQ k n)=(gb k).map λi=>nV (n/256^(k-1-i)%256):=by unfold eQ bH;rw[iM];rfl
theorem IQ:∀{l},(∀b∈l,b<256)->oA (bH l)=aa l|[],_=>rfl|a::l,h=>by have B:=h a dE;refine(?_:(if 0<=(a:Int)/\(a:Int)<256 then(oA<|bH l).map ((a:Int).toNat::·) else ag)=_);rw[aC ⟨gg a,Int.ofNat_lt.mpr B⟩,IQ λx E=>h x<|dT _ E];rfl
theorem DJ(n)(hk:k<=16)(hv:v<2^(8*k))(m):bq (n+1) ri [nV v,nV k] m=.ok (.bb<|eQ k v) m:=by
 refine enterQ [] (iK_f (Int.not_lt.mpr<|gg v)<|aJ (jB (a:=8) (dl rfl)<|small<|bS hk<|dl rfl) ?_);rfl';rw[Sh ..,Hg hv];refine iK_f (λh=>h rfl) ?_;have B:=qA (n:=k) (bS hk<|dl rfl) m;refine Ah (Ai B rfl (by rw[bJ ..,iL];exact au hk (dl rfl))) ?_;refine P8 (f:=λi=>nV<|v/256^(k-1-i)%256) B ?_ _ 0 [] (fQ _) rfl ?_
 ·intro i w E K hK;refine m8 E λJ M=>rwl M ?_;rfl';rw[SA J];refine aJ (jB (a:=8) (b:=k-1-i) (dl rfl)<|small<|bS (au (gR _ _)<|au (gR _ _) hk)<|dl rfl) ?_;rfl';rw[Sh ..,show((255:Int))=((2^8-1:Nat):Int) from rfl,lp ..,wR ..,CS ..];exact hK
 ·rw[bJ ..,iL,<-ahR ..];refine aJ (u:=.bb<|eQ k v) ?_ ?_
  ·refine(?_:(if (bH<|eQ k v).length<=1000000 then(oA<|bH<|eQ k v).map V.bb else ag)=_);rw[aC (by rw[eV ..,tm ..];exact au hk (dl rfl)),IQ<|R4 _ _];rfl
  exact rfl
theorem aby(p1:ie lo'=aa (aa lo))(p2:ie hi'=aa (aa hi))(h:m[j]?=aa (.bar l))(h1:lo<=hi/\hi<=l.length/\b.length=hi-lo/\l.length<100000):qg m (.ref j) lo' hi' (.bb b)=aa (m.set j<|.bar<|l.take lo++b++l.drop hi):=by refine(aw (λo=>(UE o).bind λl=>(ie lo').bind λlo=>lo.bind λlo=>(ie hi').bind λhi=>hi.bind λhi=>if lo<=hi/\hi<=l.1.length/\b.length=hi-lo/\l.1.length<100000 then aa (m.set j<|.bar<|l.1.take lo++b++l.1.drop hi) else ag) h).trans ?_;rw[p1,p2];exact aC h1
theorem Qb(h:m[j]?=aa (.bar l))(h1:lo<=hi)(h2:hi<=l.length)(a:b.length=hi-lo)(h4:l.length<100000):cond (dP True) (qg m (.ref j) (aa<|nV lo) (aa<|nV hi)<|.bb b) ag=aa (m.set j<|.bar<|l.take lo++b++l.drop hi):=by rw[qp trivial,cond_true ..,aby (gw<|bS (au h1 h2)<|d7 h4<|dl rfl) (gw<|bS h2<|d7 h4<|dl rfl) h<|lG h1 h2 a h4]
noncomputable def Pg(len:Nat)(p:Nat×Nat):Prop:=p.1%2=0/\p.2%2=0/\p.1<=p.2/\p.2<=len+1
theorem xN(h:hi<=len):Pg len (cS b e lo hi):=by
 unfold cS Pg;by_cases c:min e hi<=max b lo
 ·rw[aC c];exact lG rfl rfl (dR _)<|nP _
 ·rw[aB c];exact lG (XX _ _) (XX _ _) (pU 2<|wU<|zp<|eg<|zk c)<|au (NM _ 2)<|gZ<|au (y5 _ _) h
theorem r9{α:Type}(l:List α)(f b):(cut l (aa f)<|aa b).length=min b l.length-f:=by refine(?_:((l.take b).drop f).length=_);rw[yZ,gf]
theorem Ee(h:Pg l.length p)(h2:p.1<p.2):(jm l p.1 p.2).length=p.2-p.1:=by
 refine mB h λO P R E=>?_;unfold jm;refine bZ (Nat.lt_or_ge l.length p.2) (λq=>?_) λq=>?_
 ·have e:=Xu E q;have B:=(r9 l p.1 p.2).trans (aw (·-p.1)<|MA<|eg q);have J:=lP<|aoX h2 e;have M:=(aw (·-p.1) e).trans<|Nat.succ_sub J;rw[M,aC<|rws B<|wy _,d6,B];rfl
 ·have B:=(r9 l p.1 p.2).trans (aw (·-p.1)<|mR q);rw[aB<|Nat.not_lt.mpr<|dn B.symm];exact B
theorem JD(h:∀x∈l,x<256):∀x∈jm l f b,x<256:=by
 have E:∀x∈cut l (aa f) (aa b),x<256:=λx B=>h x<|k8<|rb B;unfold jm;split
 ·intro x B;refine bZ (List.mem_append.mp B) (λB=>?_) λB=>?_
  ·exact E x B
  ·rw[GL.mp B];decide
 ·exact E
def hJ(l0 l1:z0)(c:Nat)(p:Nat×Nat):Nat:=if p.1<p.2 then yh c (jm l0 p.1 p.2) (jm l1 p.1 p.2) else c
theorem aeP(h:c<=65535):hJ l0 l1 c p<=65535:=by
 unfold hJ;split
 ·exact gR _ _
 ·exact h
noncomputable def tW(u:Bool)(c:Nat):Nat:=if u=ae/\c=0 then 65535 else c
def ql(l:List (Nat×Nat)):mV:=l.map sD
noncomputable def Sg.aL(σ:Sg)(l:z0):Sg:={σ with P:={σ.P with aL:=l}}
theorem TJ(h:i+2<=l.length):num (cut l (aa i)<|aa<|i+2)=w2 l i:=by rw[Jd ..,E8 h,CJ<|jv h,CJ h];refine(?_:(0*256+l[i]'(jv h))*256+l[i+1]'h=_);rw[NQ,fQ]
theorem IS:∀(ps:List (Nat×Nat)){c},c<=65535->ps.foldl (hJ l0 l1) c<=65535|[],_,h=>h|p::ps,c,h=>IS ps<|aeP h
theorem acN(n:Nat)(g:J)(A:gj (M σ g) sv kdx=aa (ql ps))(hi:ei (M σ g) sv=aa (ql ps))(hk:d9 (M σ g) sv=kdx)
  (a:l0.length=σ.P.aL.length)(hl:l0.length<=100)(b0:∀x∈l0,x<256)(C:∀x∈σ.P.aL,x<256)(hp:pl+2<=l0.length)(D:∀p∈ps,Pg l0.length p):
  bq (n+3) tf [eS,.bb l0,nV pl,sv,.bool u] (M σ g)=.ok .none (if u=ae/\w2 l0 pl=0 then M σ g else M (σ.aL<|dy σ.P.aL pl 2<|tW u<|ps.foldl (hJ l0 σ.P.aL)<|w2 l0 pl) g):=by
 refine fE [n5,vf,pY,ri] ?_;have o:pl+2<1000000:=bS (au hp hl)<|dl rfl;have R:=jv<|jv o;have S:l0.length<=1000000:=au hl<|dl rfl;refine aJ (xK (gw R) (gw o)<|aC S) ?_;refine aM (Ov _ (v:=.bb<|cut l0 (aa pl)<|aa<|pl+2) (Jc (by intro i h;cases h) λm=>rfl) (λm=>rfl) (λm=>rfl) (λb F=>b0 b<|k8<|rb F) (by rw[r9 ..];exact au (gR _ _) (au (y5 _ _) hl))) ?_;rw[TJ hp];rfl';have s:∀{c:Nat},c<=65535->∀(K),(∀x y,K<|.nx [.val eS,.val<|.bb l0,.val<|nV pl,.val sv,.val<|.bool u,.val<|nV<|ps.foldl (hJ l0 σ.P.aL) c,x,y] (M σ g))->
   kFor (kT aR (kF aR bN (λy=>[n5,vf,pY,ri].contains y)<|n+2)<|.tup [.nm 6,.nm 7])
    (kB aR (kF aR bN (λy=>[n5,vf,pY,ri].contains y)<|n+2) [.ifs (.cmp .lt (.ba 6)<|.ba 7) [.aQ (.nm 5)<|.call (.dB vf) [.ba 5,.call (.dB pY) [.ba 1,.ba 6,.ba 7],.call (.dB pY) [.attr (.ba 0) k_data,.ba 6,.ba 7]]] []]) sv (d9 (M σ g) sv) (ql ps).length K (ql ps).length
    [.val eS,.val<|.bb l0,.val<|nV pl,.val sv,.val<|.bool u,.val<|nV c,.un,.un] (M σ g):=by
  intro c t K hK;have T:(ql ps).length=ps.length:=bJ _;refine II (λi (q:Sl×Sl)=>[.val eS,.val<|.bb l0,.val<|nV pl,.val sv,.val<|.bool u,.val<|nV<|(ps.take i).foldl (hJ l0 σ.P.aL) c,q.1,q.2]) (λZ Z=>M σ g) (λZ Z=>rwl hk A) (λZ Z=>True) ?_ ?_ (_,_) trivial rfl rfl
  ·intro i v Z G Z K hK;refine xt G λp hp H=>rwl H ?_;have B:=D p<|jW hp;have I:(ps.take<|i+1).foldl (hJ l0 σ.P.aL) c=hJ l0 σ.P.aL ((ps.take i).foldl (hJ l0 σ.P.aL) c) p:=by
    rw[pO,hp,zc ..,Yb];rfl
   rw[I] at hK;have L:=IS (l0:=l0) (l1:=σ.P.aL) (ps.take i) t;generalize(ps.take i).foldl (hJ l0 σ.P.aL) c=Q at*;unfold hJ at hK;refine cG (λV=>?_) λV=>?_
   ·have E:=Int.ofNat_lt.mp V;have Y:=au B.2.2.2<|gZ hl;have w:=gw<|bS Y<|dl rfl;have z:=gw<|bS B.2.2.1<|bS Y<|dl rfl;replace hK:=(aC E)▸hK;refine aM (Q5 (n+1) (l:=l0) (f:=p.1) (b:=p.2) hl B.2.2.1<|.inl<|xK z w<|aC S)<|aM (Q5 (n+1) (l:=σ.P.aL) (f:=p.1) (b:=p.2) (rws a hl) B.2.2.1<|.inr<|Ed (r:=15) rfl (rws a S) z w) ?_;rfl';have d:=Ee (l:=l0) B E;have N:=Ee (l:=σ.P.aL) (by rw[<-a];exact B) E;refine aM (ahP n L (JD b0) (JD C) (by rw[d,N]) (by rw[d];exact Nat.sub_mod_eq_zero_of_mod_eq (B.2.1.trans B.1.symm)) (by rw[d];exact au (gR _ _) (lP (X4 Y λe=>aT (e▸B.2.1)<|dc rfl))) _) ?_;exact hK (.val<|nV p.1,.val<|nV p.2) trivial
   ·have E:=mt Int.ofNat_lt.mpr V;replace hK:=(aB E)▸hK;exact hK (.val<|nV p.1,.val<|nV p.2) trivial
  ·intro q Z;rw[T,lR];exact hK _ _
 have j:w2 l0 pl<=65535:=by rw[E8 hp];exact Uu (b0 _<|nW _)<|b0 _<|nW _
 have O:=IS (l0:=l0) (l1:=σ.P.aL) ps j;have fin:∀c,c<65536->∀K,∀e,K (.ok e<|M (σ.aL<|dy σ.P.aL pl 2 c) g)->eK (cond (dP True) (qg (M σ g) (.ref 15) (aa<|nV pl) (aa<|nV<|pl+2)<|.bb<|eQ 2 c) ag) e K:=by
  intro c t K e h;exact dQ (Qb (lo:=pl) (hi:=pl+2) (l:=σ.P.aL) rfl (cZ _ _) (rws a hp) (by rw[tm ..];exact(CM ..).symm)<|rws a<|bS hl<|dl rfl) h
 induction u using aS with
 |false=>
  rw[aB (by simp)];refine fj hi (s j _ λx y=>aM (DJ _ (k:=2) (dl rfl) (bS O<|dl rfl) _)<|fin _ (GD O) _ _ ?_);rfl';rw[tW,aB (by simp)]
 |true=>
  refine cG (λc=>?_) λc=>?_
  ·rfl';rw[aC ⟨rfl,i8 c⟩]
  ·rw[aB λh=>c<|aw nY h.2];refine fj hi (s j _ λx y=>cG (λc=>?_) λc=>?_)
   ·rfl';refine aM (DJ _ (k:=2) (v:=65535) (dl rfl) (dl rfl) _)<|fin 65535 (dl rfl) _ _ ?_;rfl';rw[tW,aC ⟨rfl,i8 c⟩]
   ·rfl';refine aM (DJ _ (k:=2) (dl rfl) (bS O<|dl rfl) _)<|fin _ (GD O) _ _ ?_;rfl';rw[tW,aB λh=>c<|aw nY h.2]
section
variable{cond elt:Env->KK}{fr:Env}{src:V}{K:KR}{l:mV}{cc:V->Bool}{m:J}
theorem acO(hi:ei m src=aa l)(s1:∀v∈l,∀K:KR,K (.ok (.bool<|cc v) m)->cond (.val v::fr) m K)(a:∀v,∀K,K (.ok v m)->elt (.val v::fr) m K)(h:K (.ok (.lst<|l.filter cc) m)):
  ∀(r i)(acc),i+r=l.length->acc=(l.take i).filter cc->j9 cond elt fr src (d9 m src) l.length K r acc m:=
 λr i acc M B=>HH hi (λi acc=>acc=(l.take i).filter cc) (λi v acc e B k J=>s1 v (jW e) _ (by
  have E:(l.take<|i+1).filter cc=acc++_root_.cond (cc v) [v] []:=by rw[B,pO,e,XZ ..,zc ..,X0];induction cc v using aS<;>rfl
  revert E;induction cc v using aS with|true=>exact λE=>a v _ (J _ E.symm)|false=>exact λE=>J _ (E.trans<|gC acc).symm)) (λacc B=>by rw[B,lR];exact h) r i acc M B
end
theorem xO(h:m[r]?=aa (.bar l))(hx:l[i]?=aa x)(hi:i<1000000):ky m (.ref r) (nV i)=aa (nV x):=by unfold ky;rw[jd h];refine(?_:(r7 l (i:Int)).map (λ(b:Nat)=>V.int b)=_);rw[tK hx hi];rfl
theorem g9(σ)(g)(x):(M σ<|g++[x])[(M σ g).length]?=aa x:=by have:=mf σ g x [];rwa [gC] at this
theorem ng(σ)(g)(x y):(M σ<|g++[x]).set (M σ g).length y=M σ (g++[y]):=by have:=tV σ g x y [];rwa [gC,gC] at this
noncomputable def uy(h:Hd)(l:z0):Prop:=h.ay=ae->l.getD 0 0%16*4=h.aG
def KX(h:Hd)(b e:Nat):V:=.tup [nV 10,.lst [sD<|cS b e 0 h.aG]]
def dI(h:Hd)(b e:Nat):mV:=cond h.ay [KX h b e] []
def Hd.pT(h:Hd)(b e:Nat):List (Nat×Nat):=[cS b e h.aG h.len,cond h.ay (cS b e 12 20)<|cS b e 8 40]
noncomputable def Hd.T(h:Hd):Prop:=h.bx=aq/\h.bG≠.gz
def mz(h:Hd)(j:Nat):V:=.tup [nV h.at_,.ref j]
noncomputable def Off(h:Hd)(b e:Nat):Prop:=(h.ay=ae->e<=10\/12<=b)/\(e<=h.at_\/h.at_+2<=b)
theorem amM{h:Hd}(c:h.T):(h.off:Int)=h.aG:=by rw[Hd.off,c.1];rfl
section
variable(n:Nat){σ:Sg}(ok:iE σ){b e:Nat}
abbrev cR:E:=.and [.cmp .le (.bin .add (.sub (.ba 0)<|.bU<|.int 0)<|.bU<|.int 2)<|.bi .len [.attr (.ba 3) k_data],.or [.cmp .le (.ba 2)<|.sub (.ba 0)<|.bU<|.int 0,.cmp .le (.bin .add (.sub (.ba 0)<|.bU<|.int 0)<|.bU<|.int 2)<|.ba 1]]
def sa(σ:Sg)(v:V):Bool:=match v with|.tup (.int k::_)=>dP (k+2<=σ.h.len)|_=>aq
include ok in
theorem amN(ho:e<=pl\/pl+2<=b)(hK:K (.ok (.bool<|sa σ<|.tup [nV pl,z])<|M σ g')):
  kC aR (kF aR bN (λy=>[lW].contains y)<|n+1) (aa cR) [.val<|.tup [nV pl,z],.val<|nV b,.val<|nV e,.val eS] (M σ g') K:=by
 refine aJ (jC (l:=σ.P.aL) rfl (rwl ok.aL (au ok.len (by decide)))) ?_;rw[ok.aL];refine cG (λc=>?_) λc=>?_
 ·have hK:=(show sa σ (.tup [nV pl,z])=ae from qp c)▸hK;refine cG (λB=>?_) λB=>?_
  ·rfl';exact hK
  ·rfl';exact iK_t (Int.ofNat_le.mpr (ho.resolve_left λh=>B<|Int.ofNat_le.mpr h)) hK
 ·have hK:=(show sa σ (.tup [nV pl,z])=aq from rY c)▸hK;exact hK
include ok in
theorem TK(a:(M σ g')[j]?=aa (.lst l))(hl:l.length<=10)(hv:∀v∈l,∃(pl:Nat)(z:V),v=.tup [nV pl,z]/\(e<=pl\/pl+2<=b))(hK:K (.ok (.lst<|l.filter<|sa σ)<|M σ g')):
  yc (td (M σ g')<|.ref j) K λl=>j9 (kC aR (kF aR bN (λy=>[lW].contains y)<|n+1)<|aa cR) (kE aR (kF aR bN (λy=>[lW].contains y)<|n+1)<|.ba 0) [.val<|nV b,.val<|nV e,.val eS] (.ref j) (d9 (M σ g')<|.ref j) l.length K l.length [] (M σ g'):=by
 have B:ei (M σ g') (.ref j)=aa l:=by unfold ei;dsimp only;rw[a];exact aC<|au hl<|dl rfl
 refine Ah (Ai B (qc a) (au hl (by decide))) (acO (cc:=sa σ) B (λv h K hK=>fw (hv v h) λpl z E J=>?_) (λv K h=>h) hK _ 0 [] (fQ _) rfl);subst E;exact amN n ok J hK
theorem DK:(dI σ.h b e).length<=1:=by
 unfold dI;induction σ.h.ay using aS
 ·exact nP _
 ·exact dR _
theorem Qc(ho:σ.h.ay=ae->e<=10\/12<=b):∀v∈dI σ.h b e,∃(pl:Nat)(z:V),v=.tup [nV pl,z]/\(e<=pl\/pl+2<=b):=by unfold dI;induction n:σ.h.ay using aS with|false=>exact λv h=>nomatch h|true=>exact λv h=>iY 10 _ (GL.mp h)<|ho n
include ok in
theorem Qd:(dI σ.h b e).filter (sa σ)=dI σ.h b e:=by have h:sa σ (KX σ.h b e)=ae:=qp (Int.ofNat_le.mpr (au (au (by decide)<|sU ok.hd.jL 2) ok.aG));unfold dI;induction σ.h.ay using aS with|false=>rfl|true=>exact List.filter_cons_of_pos h
include ok in
theorem acP(j):(dI σ.h b e++[mz σ.h j]).filter (sa σ)=dI σ.h b e++_root_.cond (dP<|σ.h.at_+2<=σ.h.len) [mz σ.h j] []:=by have h:sa σ (mz σ.h j)=dP (σ.h.at_+2<=σ.h.len):=aw dP<|propext<|Int.ofNat_le (m:=σ.h.at_+2);rw[XZ ..,Qd ok,X0,h];induction dP (σ.h.at_+2<=σ.h.len) using aS<;>rfl
noncomputable def Pr.jR:Pr->Int|.dY=>16|.e6=>6|.gz=>-1
theorem ahS:∀{p:Pr},p≠.gz->p.jR=(p.off:Int)|.dY,_=>rfl|.e6,_=>rfl|.gz,h=>aT rfl h
abbrev KY(b e j:Nat)(x y:Sl):Env:=[.val eS,.val<|nV b,.val<|nV e,.val<|.ref j,x,y]
theorem TL(hK:K (.nx (KY b e j (.val<|.int σ.h.bG.jR) .un)<|M σ g')):
  kB aR (kF aR bN (λy=>[lW].contains y)<|n+1) ((zK.body.drop 2).take 1) (KY b e j .un .un) (M σ g') K:=by
 revert hK;induction B:σ.h.bG using Pr.casesOn<;>(intro hK;rfl';rw[B];rfl';exact hK)
include ok in
theorem TM(g:J)(hd:uy σ.h σ.P.aL)(hb:b<200)(he:e<200)(hK:K (.nx (KY b e (M σ g).length .un .un)<|M σ<|g++[.lst<|dI σ.h b e])):
  kB aR (kF aR bN (λy=>[lW].contains y)<|n+1) (zK.body.take 2) [.val eS,.val<|nV b,.val<|nV e,.un,.un,.un] (M σ g) K:=by
 unfold dI at hK;rfl';induction B:σ.h.ay using aS with
 |false=>
  rw[B,<-jG ..] at hK;exact iK_f (dc rfl) hK
 |true=>
  rw[B] at hK;refine iK_t (by decide) ?_;refine iK_t (by induction σ.h.bG using Pr.casesOn<;>exact dc rfl) ?_;rw[jG ..];refine vw (qc<|g9 σ g _) ?_;obtain⟨x,E⟩:∃x,σ.P.aL[0]?=aa x:=⟨_,cT<|rwl ok.aL<|cL (qY _) ok.aG⟩;refine aJ (xO (i:=0) (l:=σ.P.aL) rfl E (by decide)) ?_;rfl';have O:=hd B;rw[fy,E] at O;rw[show((15:Int))=((2^4-1:Nat):Int) from rfl,lp ..,wR ..];refine aJ (jB (a:=x%2^4) (b:=4) (fa (b:=4) (dl rfl) (sW _ (by decide))) (by decide)) ?_;rw[show x%2^4*4=σ.h.aG from O];refine aM (DI n (b:=b) (e:=e) (lo:=0) (hi:=σ.h.aG) (d7 hb (by decide)) (d7 he<|dl rfl) (by decide) _) (eA (ez (l:=[]) (g9 σ g _) (by decide) _) ?_);rw[ng ..];exact hK
end
theorem ahT(n:Nat){σ:Sg}(g:J)(ok:iE σ)(hd:uy σ.h σ.P.aL)(hb:b<200)(he:e<200)(ho:Off σ.h b e):
  (¬σ.h.T->bq (n+2) s8 [eS,nV b,nV e] (M σ g)=.ok (.lst<|dI σ.h b e) (M σ<|g++[.lst<|dI σ.h b e]))/\
  (σ.h.T->bq (n+2) s8 [eS,nV b,nV e] (M σ g)=.ok (.lst<|dI σ.h b e++cond (dP<|σ.h.at_+2<=σ.h.len) [mz σ.h<|(M σ g).length+1] []) (M σ<|g++[.lst<|dI σ.h b e++[mz σ.h<|(M σ g).length+1],.lst<|ql<|σ.h.pT b e])):=by
 refine⟨λB=>?_,λB=>?_⟩
 ·refine tJ [lW] (f:=zK) (K:=λr=>r=_) (by kernel_rfl) [.val eS,.val<|nV b,.val<|nV e,.un,.un,.un] rfl rfl<|iD 2<|TM n ok g hd hb he<|iD 1<|TL n ?_;have fin:∀K:KR,K (.ok (.lst<|dI σ.h b e)<|M σ<|g++[.lst<|dI σ.h b e])->_:=λK hK=>TK n ok (g9 σ g<|.lst<|dI σ.h b e) (au DK (by decide)) (Qc ho.1) (K:=K)<|rwl (Qd ok) hK;refine cG (λc=>iK_f (λS=>B ?_) ?_) λc=>?_
  ·refine⟨Bool.eq_false_iff.mpr λh=>?_,λh=>?_⟩
   ·rw[Hd.off,h] at c;exact aT (show(0:Int)<=-1 from c)<|dc rfl
   ·rw[h] at S;exact aT S (by decide)
  ·rfl';exact fin _ rfl
  ·rfl';exact fin _ rfl
 ·refine tJ [lW] (f:=zK) (K:=λr=>r=_) (by kernel_rfl) [.val eS,.val<|nV b,.val<|nV e,.un,.un,.un] rfl rfl<|iD 2<|TM n ok g hd hb he<|iD 1<|TL n ?_;have E:=amM B;have V:=ahS B.2;refine iK_t (by rw[E];exact gg _) ?_;refine iK_t (by rw[V];exact gg _) ?_;rfl';rw[E,V];refine aJ (jC (l:=σ.P.aL) rfl (rwl ok.aL (au ok.len (by decide)))) ?_;rw[ok.aL];refine aM (DI n (b:=b) (e:=e) (lo:=σ.h.aG) (hi:=σ.h.len) (d7 hb (by decide)) (d7 he<|dl rfl) (bS ok.hd.aG (by decide)) _) ?_;refine iK_t (by induction σ.h.bG using Pr.casesOn<;>exact dc rfl) ?_;rfl';have tail:∀x y:Nat×Nat,∀K:KR,K (.ok (.lst<|dI σ.h b e++cond (dP<|σ.h.at_+2<=σ.h.len) [mz σ.h<|(M σ g).length+1] [])<|M σ<|g++[.lst<|dI σ.h b e++[mz σ.h<|(M σ g).length+1]]++[.lst [sD x,sD y]])->_:=λx y K hK=>
   TK n ok (mf σ g (.lst<|dI σ.h b e++[mz σ.h<|(M σ g).length+1]) [.lst [sD x,sD y]]) (by rw[d6];exact au (sU DK 1) (by decide))
    (λv R=>(List.mem_append.mp R).elim (Qc ho.1 v) λR=>iY σ.h.at_ _ (GL.mp R) ho.2) (K:=K) (rwl (acP ok _) hK)
  have Y:((M σ<|g++[.lst<|dI σ.h b e]).length)=(M σ g).length+1:=by rw[<-jG ..,d6];rfl
  unfold Hd.pT ql;rw[show∀x y:O,g++[x,y]=g++[x]++[y] from λx y=>(iO g [x] [y]).symm];induction a:σ.h.ay using aS with
  |true=>
   refine iK_t (by decide) ?_;rw[jG ..];refine vw (qc<|g9 σ (g++[.lst<|dI σ.h b e]) _) (aM (DI n (b:=b) (e:=e) (lo:=12) (hi:=20) (d7 hb<|dl rfl) (d7 he (by decide)) (by decide) _) (eA (ez (l:=[sD<|cS b e σ.h.aG σ.h.len]) (g9 σ (g++[.lst<|dI σ.h b e]) _) (show 1<100000 by decide) _) ?_));rw[ng ..];refine vw (qc<|mf σ g _ _) ?_;rfl';rw[E];refine eA (ez (l:=dI σ.h b e) (mf σ g _ _) (bS DK (by decide)) _) ?_;rw[tV ..,Y];rfl';exact tail _ _ _ rfl
  |false=>
   refine iK_f (dc rfl) ?_;refine iK_t (by induction σ.h.bG using Pr.casesOn<;>exact dc rfl) ?_;rw[jG ..];refine vw (qc<|g9 σ (g++[.lst<|dI σ.h b e]) _) (aM (DI n (b:=b) (e:=e) (lo:=8) (hi:=40) (d7 hb (by decide)) (d7 he (by decide)) (by decide) _) (eA (ez (l:=[sD<|cS b e σ.h.aG σ.h.len]) (g9 σ (g++[.lst<|dI σ.h b e]) _) (show 1<100000 by decide) _) ?_));rw[ng ..];refine vw (qc<|mf σ g _ _) ?_;rfl';rw[E];refine eA (ez (l:=dI σ.h b e) (mf σ g _ _) (bS DK<|dl rfl) _) ?_;rw[tV ..,Y];rfl';exact tail _ _ _ rfl
noncomputable def Pr.kN:Pr->Bool|.e6=>ae|_=>aq
noncomputable abbrev Row:=Nat×List (Nat×Nat)
def ix(w:Bool)(l0 cur:z0)(r:Row):z0:=if (w&&(r.1 !=10))=ae/\w2 l0 r.1=0 then cur else dy cur r.1 2 (tW (w&&(r.1 !=10))<|r.2.foldl (hJ l0 cur)<|w2 l0 r.1)
def rowsOf(h:Hd)(b e:Nat):List Row:=cond h.ay [(10,[cS b e 0 h.aG])] []++cond (dP<|h.T/\h.at_+2<=h.len) [(h.at_,h.pT b e)] []
def AY(h:Hd)(l:z0)(s k v:Nat):z0:=(rowsOf h s<|s+k).foldl (ix h.bG.kN l)<|dy l s k v
structure Uv(l0:List Nat)(r:Row):Prop where
 pl:r.1+2<=l0.length
 ps:∀p∈r.2,Pg l0.length p
noncomputable def yz(σ:Sg)(g:J)(v:V)(r:Row):Prop:=∃B,v=.tup [nV r.1,B]/\∀l,ei (M (σ.aL l) g) B=aa (ql r.2)/\d9 (M (σ.aL l) g) B=d9 (M σ g) B
theorem acQ{w:Bool}{l0 cur:z0}{r:Row}(h:r.1+2<=cur.length):(ix w l0 cur r).length=cur.length:=by
 unfold ix;split
 ·rfl
 ·exact qb _ h
theorem aeQ{w:Bool}{l0 cur:z0}{r:Row}(h:∀b∈cur,b<256):∀b∈ix w l0 cur r,b<256:=by
 unfold ix;split
 ·exact h
 ·exact xA h
theorem Po{w:Bool}{l0:z0}:∀(rs:List Row){cur},(∀r∈rs,r.1+2<=cur.length)->(∀b∈cur,b<256)->(rs.foldl (ix w l0) cur).length=cur.length/\∀b∈rs.foldl (ix w l0) cur,b<256|[],_,_,h=>⟨rfl,h⟩|r::rs,cur,h,E=>by have B:=acQ (w:=w) (l0:=l0)<|h r dE;obtain⟨J,M⟩:=Po rs (cur:=ix w l0 cur r) (λO P=>by rw[B];exact h O (dT _ P))<|aeQ E;exact⟨J.trans B,M⟩
theorem aeR(n:Nat){σ:Sg}(g:J){l0:z0}{rv:mV}{rs:List Row}(hlen:rv.length=rs.length)(hv:∀(i:Nat)(v:V),rv[i]?=aa v->∃r,rs[i]?=aa r/\yz σ g v r)(hr:∀r∈rs,Uv l0 r)
  (f:l0.length=σ.P.aL.length)(hl:l0.length<=100)(b0:∀x∈l0,x<256)(k:∀x∈σ.P.aL,x<256)(l:rv.length<=10){a b d e:V}{K:KF}
  (hK:∀x y,K<|.nx [.val eS,.val a,.val b,.val d,.val<|.bb l0,.val e,.val<|.lst rv,x,y] (M (σ.aL<|rs.foldl (ix σ.h.bG.kN l0) σ.P.aL) g)):
  kFor (kT aR (kF aR bN (λy=>[tf,s8,sZ].contains y)<|n+3)<|.tup [.nm 7,.nm 8])
   (kB aR (kF aR bN (λy=>[tf,s8,sZ].contains y)<|n+3) [.expr<|.call (.dB tf) [.ba 0,.ba 4,.ba 7,.ba 8,.and [.cmp .eq (.attr (.ba 0) jK)<|.bU<|.int 17,.cmp .ne (.ba 7)<|.bU<|.int 10]]])
   (.lst rv) (d9 (M σ g)<|.lst rv) rv.length K rv.length [.val eS,.val a,.val b,.val d,.val<|.bb l0,.val e,.val<|.lst rv,.un,.un] (M σ g):=by
 have o:∀m,ei m (.lst rv)=aa rv:=λm=>aC (by exact au (by assumption) (by decide));refine j6 (kg o rfl) (λi (q:Sl×Sl)=>[.val eS,.val a,.val b,.val d,.val<|.bb l0,.val e,.val<|.lst rv,q.1,q.2]) (λi Z=>M (σ.aL<|(rs.take i).foldl (ix σ.h.bG.kN l0) σ.P.aL) g) (λZ Z=>True) ?_ ?_ (_,_) trivial rfl rfl
 ·intro i v Z p Z K hK;refine bo (hv i v p) λr T s=>?_;obtain⟨sv,rfl,t⟩:=s;have Y:=hr r<|jW T;have z:(rs.take<|i+1).foldl (ix σ.h.bG.kN l0) σ.P.aL=ix σ.h.bG.kN l0 ((rs.take i).foldl (ix σ.h.bG.kN l0) σ.P.aL) r:=by
   rw[pO,T,zc ..,Yb];rfl
  rw[z] at hK;refine aW (Po (w:=σ.h.bG.kN) (l0:=l0) (rs.take i) (cur:=σ.P.aL) (λO A=>by rw[<-f];exact(hr O<|k8 A).pl) k) λC D=>?_;generalize(rs.take i).foldl (ix σ.h.bG.kN l0) σ.P.aL=cur at*;refine aW (t cur) λj H=>?_;have F:=λu:Bool=>acN n (σ:=σ.aL cur) g (l0:=l0) (pl:=r.1) (u:=u) (ps:=r.2) (sv:=sv) (kdx:=d9 (M (σ.aL cur) g) sv) ((aC rfl).trans j) j rfl (f.trans C.symm) hl b0 D Y.pl Y.ps;have B:∀u:Bool,u=(σ.h.bG.kN&&(r.1 !=10))->∀K:R V->Prop,K (.ok .none<|M (σ.aL<|ix σ.h.bG.kN l0 cur r) g)->∀O,eW aR bN (n+3) tf [eS,.bb l0,nV r.1,sv,.bool u] (M (σ.aL cur) g)=O->K O:=by
   intro u G K E;refine aM (F u) ?_;unfold ix at E;rw[<-G] at E;by_cases c:u=ae/\w2 l0 r.1=0
   ·rw[aC c] at E⊢;exact E
   ·rw[aB c] at E⊢;exact E
  induction S:σ.h.bG using Pr.casesOn with
  |e6=>
   rw[S] at B hK;refine iK_t (by rw[show(σ.aL cur).h.bG=.e6 from S];decide) ?_;refine cG (λc=>?_) λc=>?_
   ·rfl';refine B ae (by rw[show(r.1 !=10)=ae from bne_iff_ne.mpr λh=>c<|aw nY h];rfl) _ ?_;exact hK (.val<|nV r.1,.val sv) trivial
   ·rfl';refine B aq (by rw[show(r.1 !=10)=aq from bne_eq_false_iff_eq.mpr (i8<|apF.mp c)];rfl) _ ?_;exact hK (.val<|nV r.1,.val sv) trivial
  |_=>
   rw[S] at B hK;refine iK_f (by rw[show(σ.aL cur).h.bG=_ from S];decide) ?_;exact B aq rfl _<|hK (.val<|nV r.1,.val sv) trivial
 ·intro q Z;rw[hlen,lR];exact hK _ _
noncomputable def BM(h:Hd)(p:Fp)(a s:Nat):Prop:=match p with|.tr _=>h.bx=aq/\s=h.aG+a|_=>s=a
set_option tactic.hygienic true in
theorem Qe(e:h.eI f=aa s):BM h f.p f.at_ s:=by
 unfold Hd.eI at e;unfold BM;split at e
 ·rename_i B;rw[B];induction E:h.ay using aS<;>rw[E] at e<;>cases e
  rfl
 ·rename_i B;rw[B];induction E:h.ay using aS<;>rw[E] at e<;>cases e
  rfl
 ·rename_i q B;rw[B];split at e
  ·rename_i c;(have J:=bf e;subst J);exact⟨c.2.1,rfl⟩
  ·exact bk e
theorem Jg{h:Hd}(c:h.bx=aq):h.off=(h.aG:Int):=by rw[Hd.off,c];rfl
theorem abz(n:Nat){σ:Sg}(g:J)(ok:iE σ)(hs:BM σ.h p a s)(hk:s+k<=σ.h.len):bq (n+2) sZ [eS,.str p.base,nV a,.bb<|eQ k v] (M σ g)=.ok .none (M (σ.aL<|dy σ.P.aL s k v) g):=by
 have R:=ok.len;have E:=ok.aL;have B:=tm k v;have T:σ.P.aL.length<=1000000:=rwl E<|au R<|dl rfl;have O:(eQ k v).length<=1000000:=au (dn B)<|au (au (wQ k s)<|au hk R) (dl rfl);have fin:∀K:KE,∀e:Env,K (.ok e<|M (σ.aL<|dy σ.P.aL s k v) g)->eK (cond (dP True) (qg (M σ g) (.ref 15) (aa<|nV s) (aa<|nV<|s+k)<|.bb<|eQ k v) ag) e K:=by
  intro K e h;exact dQ (Qb (l:=σ.P.aL) rfl (cZ s k) (rwl E hk) (B.trans (CM ..).symm)<|rwl E<|bS R<|dl rfl) h
 refine fE [] ?_;induction p using Fp.casesOn with
 |tr q=>
  refine aW hs λV Y=>?_;subst Y;have S:=Jg V;rw[S];refine iK_f (Int.not_lt.mpr<|rwl S<|gg _)<|iK_f (Int.not_lt.mpr<|gg _)<|aJ (ot O)<|aJ (jC (l:=σ.P.aL) rfl T) ?_;rw[S];refine iK_f (Int.not_lt.mpr (Int.ofNat_le.mpr (by rw[B,E];exact hk):((σ.h.aG+a+(eQ k v).length:Nat):Int)<=(σ.P.aL.length:Int))) ?_;refine aJ (ot O) ?_;rw[B];exact fin _ _ rfl
 |_=>
  obtain rfl:s=a:=hs;refine iK_f (Int.not_lt.mpr<|gg _)<|aJ (ot O)<|aJ (jC (l:=σ.P.aL) rfl T) ?_;refine iK_f (Int.not_lt.mpr (by rw[CT ..,B,E];exact Int.ofNat_le.mpr hk)) ?_;refine aJ (ot O) ?_;rw[B,CT ..];exact fin _ _ rfl
theorem aeS(ok:iE σ)(h1:¬σ.h.T):
  (∀(i:Nat)(v:V),(dI σ.h b e)[i]?=aa v->∃r,(rowsOf σ.h b e)[i]?=aa r/\yz (σ.aL l) g v r)/\(dI σ.h b e).length=(rowsOf σ.h b e).length:=by
 have B:dP (σ.h.T/\σ.h.at_+2<=σ.h.len)=aq:=rY λh=>h1 h.1;unfold rowsOf dI;rw[B];induction σ.h.ay using aS with|false=>exact⟨λi v h=>(by exact bk h),rfl⟩|true=>
  refine⟨λi v h=>?_,rfl⟩;induction i using qX with|succ i=>exact bk h|zero=>
   (have E:=bf h;subst E)
   exact⟨_,rfl,_,rfl,λl=>⟨rfl,rfl⟩⟩
theorem TN(a:29<=j)(h:(M σ g)[j]?=aa (.lst x))(hx:x.length<=10)(l):ei (M (σ.aL l) g) (.ref j)=aa x/\d9 (M (σ.aL l) g) (.ref j)=d9 (M σ g) (.ref j):=by
 have e:(M (σ.aL l) g)[j]?=aa (.lst x):=by rw[<-h];refine(?_:((M σ g).set 15<|.bar l)[j]?=_);rw[Cp (by lia)]
 refine⟨?_,by rw[qc e,qc h]⟩;unfold ei;dsimp only;rw[e];exact aC (by exact au (by assumption) (by decide))
theorem anY(σ)(g):29<=(M σ g).length:=by induction σ.P.ct using aO<;>exact wQ 29 _
theorem acR(ok:iE σ)(h1:σ.h.T)(d:29<=j)(hr:(M σ g)[j]?=aa (.lst<|ql<|σ.h.pT b e)):
  (∀(i:Nat)(v:V),(dI σ.h b e++cond (dP<|σ.h.at_+2<=σ.h.len) [mz σ.h j] [])[i]?=aa v->∃r,(rowsOf σ.h b e)[i]?=aa r/\yz (σ.aL l) g v r)/\(dI σ.h b e++cond (dP<|σ.h.at_+2<=σ.h.len) [mz σ.h j] []).length=(rowsOf σ.h b e).length:=by
 have O:dP (σ.h.T/\σ.h.at_+2<=σ.h.len)=dP (σ.h.at_+2<=σ.h.len):=by
  by_cases c:σ.h.at_+2<=σ.h.len
  ·rw[qp c,qp ⟨h1,c⟩]
  ·rw[rY c,rY λh=>c h.2]
 have E:yz (σ.aL l) g (mz σ.h j) (σ.h.at_,σ.h.pT b e):=by refine i12 (.ref j) rfl (λP=>?_);have a:=TN d hr (qT rfl) P;have b:=TN d hr (qT rfl) l;exact⟨a.1,a.2.trans b.2.symm⟩
 have J:yz (σ.aL l) g (KX σ.h b e) (10,[cS b e 0 σ.h.aG]):=i12 _ rfl λl=>⟨rfl,rfl⟩;unfold rowsOf dI;rw[O];induction σ.h.ay using aS<;>induction dP (σ.h.at_+2<=σ.h.len) using aS
 ·exact⟨λi v h=>(by exact bk h),rfl⟩
 ·refine⟨λi v h=>?_,rfl⟩
  match i,h with|0,h=>(have B:=bf h;subst B);exact i12 _ rfl E
 ·refine⟨λi v h=>?_,rfl⟩
  match i,h with|0,h=>(have B:=bf h;subst B);exact i12 _ rfl J
 ·refine⟨λi v h=>?_,rfl⟩
  match i,h with|0,h=>(have B:=bf h;subst B);exact i12 _ rfl J|1,h=>(have B:=bf h;subst B);exact i12 _ rfl E
theorem ahU(hl:l.length=h.len)(hd:r8 h)(h2:h.aG+2<=h.len):∀r∈rowsOf h b e,Uv l r:=by
 intro r hr;have E:=hd.jL;rcases List.mem_append.mp hr with hr|hr
 ·induction B:h.ay using aS with|false=>rw[B] at hr;cases hr|true=>replace hr:=(B)▸hr;obtain rfl:=GL.mp hr;refine⟨rwl hl (au (show 12<=20+2 by decide)<|au (sU E 2) h2),λp hp=>?_⟩;obtain rfl:=GL.mp hp;exact xN<|rwl hl<|au (cZ _ 2) h2
 ·by_cases c:h.T/\h.at_+2<=h.len
  ·replace hr:=(qp c)▸hr;obtain rfl:=GL.mp hr;refine⟨rwl hl c.2,λp hp=>?_⟩;rcases sS.mp hp with rfl|hp
   ·exact xN<|dn hl.symm
   ·obtain rfl:=GL.mp hp;induction B:h.ay using aS with|true=>exact xN (rwl hl<|au (au E<|cZ _ 2) h2)|false=>exact xN (rwl hl<|au (dn (hd.six B).symm)<|au (cZ _ 2) h2)
  ·replace hr:=(rY c)▸hr;cases hr
theorem acS(n:Nat){σ:Sg}(g:J)(ok:iE σ)(hd:uy σ.h σ.P.aL)(hs:BM σ.h p a s)(hk:s+k<=σ.h.len)(ho:Off σ.h s (s+k)):
  ∃g',Ex g g'/\bq (n+4) wX [eS,.str p.base,nV a,.bb<|eQ k v] (M σ g)=.ok .none (M (σ.aL<|AY σ.h σ.P.aL s k v) g'):=by
 have E:=ok.len;have B:=ok.aL;have hlen:=tm k v;have O:=au hk E;refine aW (ahT (n+1) g ok hd (b:=s) (e:=s+k) (bS (au (cZ s k) O)<|dl rfl) (bS O<|dl rfl) ho) λu w=>?_;have R:∀g',bq (n+3) sZ [eS,.str p.base,nV a,.bb<|eQ k v] (M σ g')=.ok .none (M (σ.aL<|dy σ.P.aL s k v) g'):=λg'=>abz (n+1) g' ok hs hk;have z:=qb (l:=σ.P.aL) (at_:=s) (many:=k) v<|rwl B hk;have walk:∀(rv:mV)(g':J),bq (n+3) s8 [eS,nV s,nV<|s+k] (M σ g)=.ok (.lst rv) (M σ g')->rv.length<=10->
   ((∀(i:Nat)(S:V),rv[i]?=aa S->∃r,(rowsOf σ.h s<|s+k)[i]?=aa r/\yz (σ.aL<|dy σ.P.aL s k v) g' S r)/\rv.length=(rowsOf σ.h s<|s+k).length)->
   bq (n+4) wX [eS,.str p.base,nV a,.bb<|eQ k v] (M σ g)=.ok .none (M (σ.aL<|AY σ.h σ.P.aL s k v) g'):=by
  intro rv g' Y d f;have j:ei (M (σ.aL<|dy σ.P.aL s k v) g') (.lst rv)=aa rv:=aC<|au d<|dl rfl;have run:=λ{A:V}{K:KF}=>@aeR n (σ.aL<|dy σ.P.aL s k v) g' σ.P.aL rv (rowsOf σ.h s<|s+k) f.2 f.1 (ahU B ok.hd ok.aG) z.symm (rwl B E) ok.lt (xA ok.lt) d (.str p.base) (nV a) (.bb<|eQ k v) A K;have m:lq (M σ g) (.ref 15)=aa (.bb σ.P.aL):=by
   unfold lq;rw[jd (o:=.bar σ.P.aL) rfl];exact aC<|rwl B<|au E<|dl rfl
  have t:(eQ k v).length<=1000000:=au (dn hlen)<|au (au (wQ k s) O) (dl rfl);refine fE [tf,s8,sZ] ?_;induction p using Fp.casesOn with
  |tr q=>
   refine aW hs λC D=>?_;subst D;have F:=Jg C;refine aJ m ?_;rfl';rw[F];refine aJ (ot t) ?_;rw[hlen];exact aM Y (aM (R _) (fj j (run λx y=>rfl)))
  |_=>
   obtain rfl:s=a:=hs;refine aJ m<|aJ (ot t) ?_;rw[hlen];exact aM Y (aM (R _) (fj j (run λx y=>rfl)))
 by_cases c:σ.h.T
 ·refine i12 _ (.app _ _)<|walk _ _ (w c) ?_<|acR ok c (zp<|anY σ g) ?_
  ·unfold dI;induction σ.h.ay using aS<;>induction dP (σ.h.at_+2<=σ.h.len) using aS<;>exact qT rfl
  ·have:=g9 σ (g++[.lst<|dI σ.h s (s+k)++[mz σ.h<|(M σ g).length+1]])<|.lst<|ql<|σ.h.pT s<|s+k;rw[iO,show(M σ<|g++[.lst<|dI σ.h s (s+k)++[mz σ.h<|(M σ g).length+1]]).length=(M σ g).length+1 by rw[<-jG ..,d6];rfl] at this;exact this
 ·refine i12 _ (.app _ _)<|walk _ _ (u c) ?_<|aeS ok c;unfold dI;induction σ.h.ay using aS<;>exact qT rfl
set_option tactic.hygienic true in
theorem Q6(hd:r8 h)(hf:lF f)(e:h.eI f=aa s):Off h s (s+f.many):=by
 have J:=hd.jL;unfold Hd.eI at e;unfold Off Hd.at_;split at e
 ·rename_i B;induction E:h.ay using aS<;>rw[E] at e<;>cases e
  exact⟨λZ=>hf.anU B,.inl<|au (hf.ip B)<|au J<|cZ _ _⟩
 ·rename_i B;induction E:h.ay using aS<;>rw[E] at e<;>cases e
  exact⟨λh=>(by exact dG h),.inl<|au (hf.il B)<|au (dn (hd.six E).symm)<|cZ _ _⟩
 ·rename_i q B;split at e
  ·rename_i c
   (have M:=bf e;subst M)
   refine aW c λO Z=>rwl O ?_;have:=hf.anV _ B;exact⟨λZ=>.inr (au (by decide)<|au J<|cZ _ _),this.imp (λh=>au (dn<|lS _ _ _)<|kZ h _) λh=>au (dn<|lS _ _ _)<|kZ h _⟩
  ·exact bk e
theorem Si(n:Nat)(g:J)(ok:iE σ)(hs:BM σ.h p a s)(ha:s<=100)(hk:k<=16):bq (n+2) vg [eS,.str p.base,nV a,nV k] (M σ g)=.ok (if s+k<=σ.h.len then .bb (cut σ.P.aL (aa s)<|aa<|s+k) else .none) (M σ g):=by
 have R:=ok.len;have B:=ok.aL;have E:σ.P.aL.length<=1000000:=rwl B<|au R<|dl rfl;have lt:∀{j:Nat},¬(σ.h.len:Int)<(j:Int)->j<=σ.h.len:=λc=>jV λq=>c<|Int.ofNat_lt.mpr q;have nl:∀{j:Nat},(σ.h.len:Int)<(j:Int)->¬j<=σ.h.len:=λc=>Nat.not_le.mpr<|Int.ofNat_lt.mp c;have fin:mv (M σ g) (.ref 15) (aa<|nV s) (aa<|nV<|s+k)=aa (.bar<|cut σ.P.aL (aa s)<|aa<|s+k):=Ed rfl E (gw<|bS ha<|dl rfl)<|gw<|bS (mX ha hk)<|dl rfl;have S:lq (M σ g) (.bar<|cut σ.P.aL (aa s)<|aa<|s+k)=aa (.bb<|cut σ.P.aL (aa s)<|aa<|s+k):=aC<|au zL<|rwl B<|au R<|dl rfl;refine fE [] ?_;induction p using Fp.casesOn with
 |tr q=>
  refine aW hs λT V=>?_;subst V;have O:=Jg T;rw[O];refine iK_f (Int.not_lt.mpr<|rwl O<|gg _)<|iK_f (Int.not_lt.mpr<|gg _)<|aJ (jC (l:=σ.P.aL) rfl E) ?_;rw[O,B];refine cG (λc=>?_) λc=>?_
  ·rw[aB<|nl c];exact rfl
  ·rw[aC<|lt c];exact aJ fin<|aJ S rfl
 |_=>
  obtain rfl:s=a:=hs;refine iK_f (Int.not_lt.mpr<|gg _)<|aJ (jC (l:=σ.P.aL) rfl E) ?_;rw[B,CT ..];refine cG (λc=>?_) λc=>?_
  ·rw[aB<|nl c];exact rfl
  ·rw[aC<|lt c];exact aJ fin<|aJ S rfl
theorem abA(n)(g)(hl:σ.h.bx=ae):bq (n+2) vg [eS,.str (Fp.tr q).base,nV a,nV k] (M σ g)=.ok .none (M σ g):=by refine fE [] ?_;refine iK_t (by rw[Hd.off,hl];exact(by decide:(-1:Int)<0)) ?_;exact rfl
theorem ahV(n:Nat)(g:J)(ok:iE σ)(hf:lF f)(h1:σ.h.meets f.p=ae)(h2:σ.h.eI f=ag):bq (n+2) vg [eS,.str f.p.base,nV f.at_,nV f.many] (M σ g)=.ok .none (M σ g):=by
 unfold Hd.eI at h2;induction B:f.p using Fp.casesOn with
 |ip=>rw[B] at h1 h2;rw[show σ.h.ay=ae from h1] at h2;exact iZ h2
 |il=>
  rw[B] at h1 h2;have:σ.h.ay=aq:=by
   induction O:σ.h.ay using aS with
   |false=>rfl
   |true=>rw[show σ.h.meets .il=!σ.h.ay from rfl,O] at h1;exact dG h1
  rw[this] at h2;exact iZ h2
 |tr q=>
  rw[B] at h1 h2;have P:σ.h.bG=q:=by
   by_cases c:σ.h.bG=q
   ·exact c
   ·rw[show σ.h.meets (.tr q)=dP (σ.h.bG=q) from rfl,rY c] at h1;exact dG h1
  induction E:σ.h.bx using aS with
  |true=>exact abA n g E
  |false=>
   have:=Si n g ok (p:=.tr q) (a:=f.at_) (s:=σ.h.aG+f.at_) (k:=f.many) ⟨E,rfl⟩ (au (mX ok.hd.aG hf.at_)<|dl rfl) hf.many;rw[this,aB];intro c;dsimp only at h2;rw[aC<|cv P E c] at h2;exact iZ h2
theorem E9(a):cU ((8*a:Nat):Int) 8=(a:Int):=by rw[show(8:Int)=((8:Nat):Int) from rfl,m9 ..,X6 a<|dl rfl]
theorem Fb(a):bX ((8*a:Nat):Int) 8=0:=by rw[show(8:Int)=((8:Nat):Int) from rfl,oj ..,XW ..];rfl
noncomputable def Kl(σ:Sg):Prop:=∀(f)(s v),lF f->σ.h.eI f=aa s->AY σ.h σ.P.aL s f.many v=ja σ.h (dy σ.P.aL s f.many v)
noncomputable def Fd.Set:Fd->Prop|.o _=>True|.cB=>True|.pri=>True|.kK=>True|_=>False
set_option tactic.hygienic true in
theorem ahW(n:Nat)(g:J)(ok:iE σ)(hd:uy σ.h σ.P.aL)(hm:Kl σ)(hf:lF f)(hv:v<2^(8*f.many)):
  ∃g',Ex g g'/\bq (n+9) nZ [bD,f.field,nV v] (M σ g)=.ok (.bool (σ.h.eI f).isSome) (M (σ.bD (jN σ.h σ.P v<|.o f).2) g')/\(jN σ.h σ.P v<|.o f).1=cond (σ.h.eI f).isSome .none fD:=by
 have T:=Q1 (n+2) σ g hf.tr;unfold jN;dsimp only;induction B:σ.h.eI f using aO with
 |none=>
  refine cu g (.rfl) (fE [uI,vg,wX,ri] ?_) rfl;rfl';rw[Fb ..];refine iK_f (λh=>h rfl) ?_;rfl';rw[Fb ..];refine iK_f (λh=>h rfl) ?_;rfl';rw[E9 ..,E9 ..];refine aM T ?_;induction V:σ.h.meets f.p using aS with
  |false=>
   exact rfl
  |true=>
   exact aM (ahV (n+6) g ok hf V B) rfl
 |some s=>
  have E:=Q0 hf ok B;have d:=ok.len;have Y:σ.h.meets f.p=ae:=by
   unfold Hd.eI at B;unfold Hd.meets;split at B
   ·rename_i O;rw[O];induction R:σ.h.ay using aS<;>rw[R] at B<;>first|rfl|exact bk B
   ·rename_i O;rw[O];induction R:σ.h.ay using aS<;>rw[R] at B<;>first|rfl|exact bk B
   ·rename_i q O;rw[O];split at B
    ·rename_i c;exact qp c.1
    ·exact bk B
  refine bo (acS (n+4) g ok hd (v:=v) (Qe B) E<|Q6 ok.hd hf B) λg' a b=>cu g' a (fE [uI,vg,wX,ri] ?_) rfl;rfl';rw[Fb ..];refine iK_f (λh=>h rfl) ?_;rfl';rw[Fb ..];refine iK_f (λh=>h rfl) ?_;rfl';rw[E9 ..,E9 ..];refine aM T ?_;rw[Y];have S:=Si (n+6) g ok (k:=f.many) (Qe B) (by lia) hf.many;replace S:=(aC E)▸S;refine aM S<|aM (DJ (n+7) hf.many hv _)<|aM b ?_;rw[hm f s v hf B];exact rfl
theorem aeT(n:Nat)(g:J)(ok:BL σ)(hd:uy σ.h σ.P.aL)(hm:Kl σ)(rule place:V)(hs:(Sm.set f e).Ok)(b:f.Set)(c:e.jT)(hv:∀v,source σ.h σ.P e=aa v->v<2^(8*f.dm)):
  fN σ g (dF σ.h σ.P<|.set f e) (bq (n+12) tj [bD,(Sm.set f e).toV,rule,place] (M σ g)):=by
 refine bo (Se n g ok.ok ok.val hs.2 c) λS hg B=>?_;show fN σ g (match source σ.h σ.P e with
  |none=>(fD,σ.P)
  |some n=>jN σ.h σ.P n f) _
 induction f using Fd.casesOn with
 |o f=>
  induction E:source σ.h σ.P e using aO with
  |none=>
   replace B:=(E)▸B;exact enter [gh,nZ] (ED hs.1.field<|aM B<|.br hg)
  |some v=>
   replace B:=(E)▸B;refine cA (ahW (n+1) S ok.ok hd hm hs.1<|hv v E) λs Y p T=>enter [gh,nZ] (ED hs.1.field<|aM B<|aJ hs.1.field<|aM p ?_);have d:∀w,(jN σ.h σ.P v<|.o f).1=w->jN σ.h σ.P v (.o f)=(w,(jN σ.h σ.P v<|.o f).2):=λw h=>NH h rfl;induction q:(σ.h.eI f).isSome using aS<;>replace T:=(q)▸T
   ·rfl';refine(?_:fN σ g (jN σ.h σ.P v<|.o f) _);rw[d _ T];exact .br<|hg.trans Y
   ·rfl';refine(?_:fN σ g (jN σ.h σ.P v<|.o f) _);rw[d _ T];exact .nx<|hg.trans Y
 |cB=>
  induction E:source σ.h σ.P e using aO with
  |none=>
   replace B:=(E)▸B;exact enter [gh,nZ] (aM B<|.br hg)
  |some v=>
   replace B:=(E)▸B;exact enter [gh,nZ] (aM B<|.nx (σ:=σ) (a:={σ.P with cB:=v}) (g:=S) hg)
 |pri=>
  induction E:source σ.h σ.P e using aO with
  |none=>
   replace B:=(E)▸B;exact enter [gh,nZ] (aM B<|.br hg)
  |some v=>
   replace B:=(E)▸B;exact enter [gh,nZ] (aM B<|.nx (σ:=σ) (a:={σ.P with pri:=v}) (g:=S) hg)
 |kK=>
  induction E:source σ.h σ.P e using aO with
  |none=>
   replace B:=(E)▸B;exact enter [gh,nZ] (aM B<|.br hg)
  |some v=>
   replace B:=(E)▸B;clear E hv hm;obtain⟨i,at_,sum,k,l,h,L,⟨aL,cB,pri,st,r,O,R⟩,m⟩:=σ;refine enter [gh,nZ] ?_;induction r using aO with
   |none=>
    exact aM B<|.nx (σ:=⟨i,at_,sum,k,l,h,L,⟨aL,cB,pri,st,ag,O,R⟩,m⟩) (a:=⟨aL,cB,pri,st,ag,O,R⟩) (g:=S) hg
   |some j=>
    exact aM B<|.nx (σ:=⟨i,at_,sum,k,l,h,L,⟨aL,cB,pri,st,aa j,O,R⟩,m⟩) (a:=⟨aL,cB,pri,st,aa v,O,R⟩) (g:=S) hg
 |_=>exact b.elim
theorem aeU(n:Nat)(g:J)(ok:BL σ)(rule place:V)(b:Bd):fN σ g (dF σ.h σ.P<|.H b) (bq (n+12) tj [bD,(Sm.H b).toV,rule,place] (M σ g)):=by
 induction b using Bd.casesOn with
 |BK=>
  refine(?_:fN σ g (match σ.P.ct with
   |none=>fD
   |some _=>E6,σ.P) _)
  refine bo (Se n g ok.ok ok.val (e:=.fld .kK) trivial trivial) λO B E=>enter [gh] (aM E ?_);unfold source value;dsimp only;induction σ.P.ct using aO with
  |none=>
   exact .br B
  |some k=>
   rfl';exact .ex B
 |_=>
  refine enter [] ?_;rfl';exact .ex (σ:=σ) (a:=σ.P) (g:=g) .rfl
end
section
theorem add_eq{a b c d:Nat}(h:a=c)(k:b=d):a+b=c+d:=h▸rws k rfl
noncomputable def sm(g:Nat->Nat):Nat->Nat|0=>0|n+1=>sm g n+g n
theorem TO(g f)(n):sm (λi=>g i+f i) n=sm g n+sm f n:=by induction n with|zero=>rfl|succ n B=>exact(aw (·+(g n+f n)) B).trans<|Nat.add_add_add_comm ..
theorem IT(g)(n):sm g (n+1)=g 0+sm (λi=>g<|i+1) n:=by induction n with|zero=>exact jY _ _|succ n B=>exact(aw (·+g (n+1)) B).trans<|lS ..
theorem Jh{g:Nat->Nat}(h:∀i,i<n->g i=0):sm g n=0:=by induction n with|zero=>rfl|succ n B=>exact(add_eq (B λi E=>h i<|MZ E) (h n<|wy n):_=0+0)
theorem aeV{f g:Nat->Nat}(h1:∀i,i<lo->f i=0)(h2:∀i,f (lo+i)=g i)(n):sm f (lo+n)=sm g n:=by induction n with|zero=>exact Jh h1|succ n B=>exact add_eq B (h2 n)
noncomputable def wt(i:Nat):Nat:=if i%2=0 then 256 else 1
theorem Sj(i)(h:lo%2=0):wt (lo+i)=wt i:=by unfold wt;rw[Nat.add_mod ..,h,fQ ..,Nat.mod_mod ..]
theorem Sk:∀(l){n},l.length<=n->b9 l=sm (λi=>wt i*l.getD i 0) n|[],_,_=>(Jh λZ Z=>rfl).symm|[a],n+1,_=>(IT _ n).trans ((aw (256*a+·) (Jh λZ Z=>rfl)).trans<|zl ..)|>.symm|a::b::r,n+2,h=>by rw[IT ..,IT ..,show b9 (a::b::r)=a*256+b+b9 r from rfl,Sk r<|NR<|NR h,lS ..,zl ..,zm ..];exact aw (λg=>256*a+(b+sm g n)) (funext λi=>by rw[show i+1+1=2+i from jY i 2,Sj i rfl,jY 2 i];rfl)
theorem AG{l:z0}(h:l.length<=i):l.getD i 0=0:=by rw[fy,Co h];rfl
theorem DZ(l)(lo hi i):(cut l (aa lo)<|aa hi).getD i 0=if lo+i<hi then l.getD (lo+i) 0 else 0:=by
 refine(?_:((l.take hi).drop lo).getD i 0=_);rw[fy,Nz,NA];split
 ·rw[fy]
 ·rfl
def wo(l:z0)(lo hi n:Nat):Nat:=sm (λi=>if lo<=i/\i<hi then wt i*l.getD i 0 else 0) n
theorem TP(h:lo%2=0)(hx:∀i,x.getD i 0=if lo+i<hi then l.getD (lo+i) 0 else 0)(hn:lo+x.length<=n):b9 x=wo l lo hi n:=by
 refine bu (apA<|au (cZ _ _) hn) λk B=>?_;subst B;refine(Sk x<|Nat.le_of_add_le_add_left hn).trans (aeV (λi hi=>aB λq=>CL hi q.1) (λi=>?_) k).symm;rw[hx ..,Sj i h];by_cases c:lo+i<hi
 ·rw[aC c,aC ⟨cZ _ _,c⟩]
 ·rw[aB c,aB λq=>c q.2];rfl
theorem Q7(h:∀i,¬((lo<=i/\i<hi)<->(f<=i/\i<b))->l.getD i 0=p.getD i 0)(n):wo p lo hi n+wo l f b n=wo l lo hi n+wo p f b n:=by
 rw[<-TO ..,<-TO ..];refine aw (sm · n) (funext λi=>?_);by_cases c:(lo<=i/\i<hi)<->(f<=i/\i<b)
 ·by_cases B:lo<=i/\i<hi
  ·rw[aC B,aC<|c.mp B,aC B,aC<|c.mp B];exact jY _ _
  ·rw[aB B,aB λq=>B<|c.mpr q,aB B,aB λq=>B<|c.mpr q]
 ·rw[h i c]
theorem Q8(h:lo%2=0)(hn:lo+(min hi l.length-lo)<=n):b9 (cut l (aa lo)<|aa hi)=wo l lo hi n:=TP h (DZ l lo hi)<|rwl (r9 l lo hi) hn
set_option tactic.hygienic true in
theorem IU(l r:z0)(i):(l++r).getD i 0=if i<l.length then l.getD i 0 else r.getD (i-l.length) 0:=by
 rw[fy];split
 ·rename_i h;rw[sI h,fy]
 ·rename_i h;rw[nS (by lia),fy]
set_option tactic.hygienic true in
theorem aeW{l:z0}(h:f+i<b):(jm l f b).getD i 0=l.getD (f+i) 0:=by
 have B:(cut l (aa f)<|aa b).getD i 0=l.getD (f+i) 0:=by rw[DZ ..,aC h]
 unfold jm;split
 ·rw[IU ..];split
  ·exact B
  ·rename_i E;replace E:=(r9 ..)▸E;rw[AG (l:=l) (by lia),show i-(cut l (aa f)<|aa b).length=0+(i-(cut l (aa f)<|aa b).length) by lia,fy];induction i-(cut l (aa f)<|aa b).length using qX<;>rfl
 ·exact B
theorem Q9{l:z0}(hp:Pg l.length p)(h:p.1<p.2)(hn:p.2<=n):b9 (jm l p.1 p.2)=wo l p.1 p.2 n:=by
 have B:=Ee hp h;refine TP hp.1 (λi=>?_) (by rw[B,NS<|eg h];exact hn);by_cases c:p.1+i<p.2
 ·rw[aC c,aeW c]
 ·rw[aB c,AG (B▸Yc (rws (jY ..)<|jV c))]
theorem seg{l p:z0}(hl:l.length=p.length)(h1:lo%2=0)(h2:lo<=hi)(d:hi<=l.length)(h4:hi%2=0\/hi=l.length)
  (ha:∀i,lo<=i->i<hi->¬(s<=i/\i<e)->l.getD i 0=p.getD i 0):
  if (cS s e lo hi).1<(cS s e lo hi).2 then b9 (cut p (aa lo)<|aa hi)+b9 (jm l (cS s e lo hi).1 (cS s e lo hi).2)=b9 (cut l (aa lo)<|aa hi)+b9 (jm p (cS s e lo hi).1 (cS s e lo hi).2)
  else b9 (cut p (aa lo)<|aa hi)=b9 (cut l (aa lo)<|aa hi):=by
 have O:∀{k},lo+(min hi k-lo)<=hi+1:=λ{k}=>zp<|au (kZ (Nat.sub_le_sub_right (Hj hi k) lo) lo)<|dn<|NS h2;rw[Q8 (l:=l) h1 O,Q8 (l:=p) h1 O];by_cases c:min e hi<=max s lo
 ·rw[show cS s e lo hi=(0,0) from aC c,aB<|sL 0];exact M4 ((Q7 (f:=0) (b:=0) (λi q=>Yd λk=>q ⟨λy=>aT (ha i y.1 y.2 λw=>sL i<|cL (Nat.lt_min.mpr ⟨w.2,y.2⟩)<|au c<|Nat.max_le.mpr ⟨w.1,y.1⟩) k,λy=>aT y.2<|Cu _⟩) _).trans rfl)
 ·have E:cS s e lo hi=(max s lo/2*2,(min e hi+1)/2*2):=aB c;have P:Pg l.length (cS s e lo hi):=xN d;have B:(cS s e lo hi).2<=hi+1:=rwl E<|au (NM _ 2)<|gZ<|y5 e hi;have T:lo<=(cS s e lo hi).1:=rwl E<|au (dn (apB<|yV h1).symm)<|pU 2<|wU<|Nat.le_max_right s lo;have R:(cS s e lo hi).1<=max s lo:=rwl E<|NM _ 2;have S:min e hi<=(cS s e lo hi).2:=rwl E<|lP<|lP<|Nat.lt_div_mul_add (a:=min e hi+1) (b:=2)<|dl rfl;have M:=bS R<|cL (zk c) S;rw[aC M,Q9 P M B,Q9 (l:=p) (rws hl P) M B];refine Q7 (λi q=>Yd λk=>q ⟨λy=>Yd λw=>k (ha i y.1 y.2 λv=>w ⟨au R<|Nat.max_le.mpr ⟨v.1,y.1⟩,cL (Nat.lt_min.mpr ⟨v.2,y.2⟩) S⟩),λy=>⟨au T y.1,zk λw=>k ?_⟩⟩) _;have J:=Xu (lP<|cL y.2 B) w;rcases h4 with h4|h4
  ·rw[E] at y;dsimp only at y;lia
  ·rw[AG (J▸rws h4 (dR _)),AG (hl▸J▸rws h4 (dR _))]
theorem aeX(l:z0)(a i x):(l.set a x).getD i 0=if i=a/\a<l.length then x else l.getD i 0:=by
 rw[fy,aoT,fy];by_cases c:a=i
 ·refine rws c ?_;by_cases B:a<l.length
  ·rw[aC rfl,aC B,aC ⟨rfl,B⟩];rfl
  ·rw[aC rfl,aB B,aB λh=>B h.2,Co<|jV B]
 ·rw[aB c,aB λh=>c h.1.symm]
theorem Vx(l:z0)(a i):(l.set a 0).getD i 0=if i=a then 0 else l.getD i 0:=by
 rw[aeX ..];by_cases c:i=a
 ·rw[aC c];by_cases B:a<l.length
  ·rw[aC ⟨c,B⟩]
  ·rw[aB λq=>B q.2,AG (c▸jV B)]
 ·rw[aB c,aB λq=>c q.1]
theorem jy(l:z0)(a i):(cw l a).getD i 0=if i=a\/i=a+1 then 0 else l.getD i 0:=by
 rw[cw,Vx ..,Vx ..];by_cases c:i=a+1
 ·rw[aC c,aC<|.inr c]
 ·by_cases B:i=a
  ·rw[aB c,aC B,aC<|.inl B]
  ·rw[aB c,aB B,aB λq=>q.elim B c]
theorem p9(h:s+k<=l.length)(i):(dy l s k v).getD i 0=if s<=i/\i<s+k then(eQ k v).getD (i-s) 0 else l.getD i 0:=by
 rw[dy,IU ..,IU ..,d6,gf,tm ..,mR<|au (cZ s k) h];by_cases B:i<s
 ·rw[aC<|cL B<|cZ s k,aC B,aB λq=>CL B q.1,fy,NA,aC B,fy]
 ·by_cases E:i<s+k
  ·rw[aC E,aB B,aC ⟨jV B,E⟩]
  ·rw[aB E,aB λq=>E q.2,fy,Nz,fy,NS<|jV E]
theorem xu{l p:z0}(h:l.length=p.length)(h2:∀i,i<l.length->l.getD i 0=p.getD i 0):l=p:=by refine List.ext_getElem h λi B E=>?_;have:=h2 i B;rwa [fy,fy,cT B,cT E] at this
theorem D0{l:z0}(h:a+2<=l.length):dy (cw l a) a 2 c=dy l a 2 c:=by
 refine xu (by rw[qb _ (by rw[fk ..];exact h),qb _ h,fk ..]) λi Z=>?_;rw[p9 (by rw[fk ..];exact h) ..,p9 h ..,jy ..];by_cases c:a<=i/\i<a+2
 ·rw[aC c,aC c]
 ·rw[aB c,aB c,aB λq=>c (q.elim (λq=>rws q ⟨dR _,G3<|dl rfl⟩) λq=>rwl q ⟨g0 _,wy _⟩)]
theorem Qf{l p:z0}(h:l.length=p.length)(h2:∀i,f<=i->i<b->l.getD i 0=p.getD i 0):cut l (aa f) (aa b)=cut p (aa f) (aa b):=by
 refine xu (by rw[r9 ..,r9 ..,h]) λi Z=>?_;rw[DZ ..,DZ ..];by_cases c:f+i<b
 ·rw[aC c,aC c];exact h2 _ (cZ f i) c
 ·rw[aB c,aB c]
theorem Qg(h:l.length=p.length)(h2:∀i,f<=i->i<b->l.getD i 0=p.getD i 0):jm l f b=jm p f b:=by unfold jm;rw[Qf h h2]
theorem amO(h:c<65536):(eQ 2 c).getD 0 0*256+(eQ 2 c).getD 1 0=c:=by refine(?_:(c/256^1%256)*256+(c/1%256)=c);rw[XT ..,wF<|aob h];exact Nat.div_add_mod' c 256
noncomputable def Cg(c S:Nat):Prop:=65535∣S+c/\c<=65535
theorem ahX(t):∃p,t=kM t+65535*p:=by
 unfold kM;by_cases c:t=0
 ·exact⟨0,by rw[aC c,c]⟩
 ·refine⟨(t-1)/65535,?_⟩;rw[aB c,sF ..,X8 ..,NP<|Hh c]
theorem ahY(h:t≠0):0<kM t:=by unfold kM;rw[aB h];exact qY _
theorem ahZ{c S d:Nat}(h:Cg c S)(ha:b9 a<=a.length/2*65535)(he:d+b9 a=S+b9 b):Cg (yh c a b) d/\(c<=65534->yh c a b<=65534):=by
 have E:=TH<|vx c a b;refine bu (ahX<|vx c a b) λp J=>?_;have B:vx c a b+b9 a=65535-c+a.length/2*65535+b9 b:=by rw[sF ..,NP<|au ha<|wQ _ _]
 refine⟨⟨?_,gR _ _⟩,λM=>Yc (kZ (ahY λq=>?_) 65534)⟩
 ·have:d+yh c a b+a.length/2*65535=S+c+65535*p:=by unfold yh;generalize a.length/2*65535=k at*;generalize kM (vx c a b)=f at*;have:=h.2;lia
  exact(apC<|Nat.dvd_mul_left _ _).mp (rwl this<|Ye h.1<|apD _ _)
 ·replace B:=(q)▸B;generalize a.length/2*65535=k at*;lia
theorem TQ{S c d:Nat}(h:c<=d)(hd:d<=65534)(h1:65535∣S+c)(h2:65535∣S+d):c=d:=by refine bu (apA h) λk B=>?_;subst B;have:=Nat.eq_zero_of_dvd_of_lt ((Nat.dvd_add_right h1).mp<|rwl (lS S c k) h2)<|bS (wQ k c)<|GD hd;rw[this];rfl
theorem xP(S):ff S<=65534:=by
 unfold ff;by_cases c:S%65535=0
 ·rw[aC c];decide
 ·rw[aB c];exact Yc<|kZ (Hh c) 65534
theorem xQ(S):Cg (ff S) S:=by
 refine⟨?_,zp<|xP S⟩;unfold ff;by_cases c:S%65535=0
 ·rw[aC c];exact yV c
 ·rw[aB c];have h:=X8 S 65535;have B:S%65535<=65535:=eg<|sW S<|dl rfl;generalize S%65535=r at*;rw[<-h,sF ..,NS B];exact Ye (Yg _)<|apD _ _
theorem AZ{c S:Nat}(h:Cg c S)(h2:c<=65534):c=ff S:=
 (W6 c<|ff S).elim (λq=>TQ q (xP S) h.1 (xQ S).1) λq=>(TQ q h2 (xQ S).1 h.1).symm
theorem ah0{S:Nat}(h:Cg 65535 S):Cg 0 S:=⟨(apC<|Yg _).mp h.1,nP _⟩
theorem ah1{S:Nat}(h:Cg 0 S):Cg 65535 S:=⟨Ye h.1<|Yg _,dR _⟩
theorem akR(p:Pr)(S):Cg (p.fin<|ff S) S:=by
 induction p using Pr.casesOn with
 |e6=>
  unfold Pr.fin;by_cases c:ff S=0
  ·exact(aC c).symm▸ah1 (rws c<|xQ S)
  ·exact rwl (aB c)<|xQ S
 |_=>exact xQ S
theorem ah2{c S:Nat}(h:Cg c S):tW ae c=Pr.e6.fin (ff S):=by
 refine(?_:(if ae=ae/\c=0 then 65535 else c)=if ff S=0 then 65535 else ff S)
 by_cases B:c=0
 ·rw[aC ⟨rfl,B⟩,aC (AZ (B▸h)<|dl rfl).symm]
 ·rw[aB λh=>B h.2];by_cases E:c=65535
  ·rw[aC (AZ (ah0<|rws E h)<|dl rfl).symm,E]
  ·rw[<-AZ h (lP<|X4 h.2 E),aB B]
theorem m1(hl:l.length=p.length)(h1:lo%2=0)(h2:lo<=hi)(d:hi<=l.length)(h4:hi%2=0\/hi=l.length)
  (ha:∀i,lo<=i->i<hi->¬(s<=i/\i<e)->l.getD i 0=p.getD i 0)(hb:∀x∈l,x<256)
  (g:a.length=l.length)(j:b.length=l.length)(k:∀i,(cS s e lo hi).1<=i->i<(cS s e lo hi).2->a.getD i 0=l.getD i 0)(m:∀i,(cS s e lo hi).1<=i->i<(cS s e lo hi).2->b.getD i 0=p.getD i 0)
  (hc:Cg c (r+b9 (cut l (aa lo)<|aa hi))):Cg (hJ a b c<|cS s e lo hi) (r+b9 (cut p (aa lo)<|aa hi))/\(c<=65534->hJ a b c (cS s e lo hi)<=65534):=by
 have B:=seg (s:=s) (e:=e) hl h1 h2 d h4 ha;unfold hJ;rw[Qg g k,Qg (j.trans hl) m];by_cases E:(cS s e lo hi).1<(cS s e lo hi).2
 ·rw[aC E] at B⊢;refine ahZ hc ?_ ((lS ..).trans ((aw (r+·) B).trans (lS ..).symm));have J:Pg l.length (cS s e lo hi):=xN d;have M:=AF<|JD (l:=l) (f:=(cS s e lo hi).1) (b:=(cS s e lo hi).2) hb;have O:=Ee (l:=l) J E;have:=J.1;have:=J.2.1;refine au M<|pU _ ?_;rw[O];generalize(cS s e lo hi).1=x at*;generalize(cS s e lo hi).2=y at*;lia
 ·rw[aB E] at B⊢;rw[B];exact⟨hc,λh=>h⟩
structure Right(h:Hd)(l:List Nat):Prop where
 r4:h.ay=ae->w2 l 10=ff (b9<|(cw l 10).take h.aG)
 rT:h.T->h.at_+2<=h.len->w2 l h.at_=cond h.bare 0 (h.bG.fin<|ff<|b9<|ends h (cw l h.at_)++(cw l h.at_).drop h.aG)
structure eX(h:Hd):Prop where
 ok:r8 h
 len:h.len<=100
 aG:h.aG+2<=h.len
 FO:h.aG%2=0
 bare:h.bare=ae->h.bG=.e6
theorem xR{h:Hd}(hl:l.length=h.len):h.no l<->¬(h.T/\h.at_+2<=h.len):=by
 unfold Hd.no Hd.T;rw[hl];constructor
 ·intro q M;exact aW M λO J=>aW O λB E=>q.elim E λq=>q.elim (λq=>aT (B.symm.trans q) dq) λq=>CL q J
 ·intro q;by_cases E:h.bG=.gz
  ·exact .inl E
  ·by_cases B:h.bx=ae
   ·exact .inr<|.inl B
   ·exact .inr (.inr (zk λJ=>q ⟨⟨Bool.eq_false_iff.mpr B,E⟩,J⟩))
theorem EH(h:Hd):h.aG<=h.at_:=cZ _ _
theorem aeY(h1:a%2=0)(h2:b%2=0):(a-b)%2=0:=by refine bu (yV h1) λx B=>rwl B (bu (yV h2) λy B=>rwl B ?_);rw[<-Nat.mul_sub ..];exact XW _ _
theorem aeZ(e1:a%2=0)(c:b%2=0)(h:b<=l.length):(cut l (aa a)<|aa b).length%2=0:=by rw[r9 ..,mR h];exact aeY c e1
theorem whole(st:eX h)(hl:l.length=h.len):
  b9 (ends h (cw l h.at_)++(cw l h.at_).drop h.aG)=(h.bG.nn+(h.len-h.aG))+b9 (cond h.ay (cut l (aa 12)<|aa 20)<|cut l (aa 8)<|aa 40)+b9 (cut (cw l h.at_) (aa h.aG)<|aa h.len):=by
 have E:=(fk l h.at_).trans hl;have O:=hl▸eg (cL (G3<|dl rfl) st.aG);have J:∀{a b},a%2=0->b%2=0->b<=h.aG->cut (cw l h.at_) (aa a) (aa b)=cut l (aa a) (aa b)/\(cut l (aa a)<|aa b).length%2=0:=λP R M=>⟨Qf (fk _ _) λi Z S=>by have:=cL S<|au M<|EH h;rw[jy ..,aB λq=>q.elim (ju this)<|ju<|MZ this],aeZ P R<|au M O⟩
 have B:(cond h.ay (((cw l h.at_).take 20).drop 12)<|((cw l h.at_).take 40).drop 8)=cond h.ay (cut l (aa 12)<|aa 20) (cut l (aa 8)<|aa 40)/\(cond h.ay (cut l (aa 12)<|aa 20)<|cut l (aa 8)<|aa 40).length%2=0:=by induction T:h.ay using aS with|true=>exact J rfl rfl st.ok.jL|false=>exact J rfl rfl (dn (st.ok.six T).symm)
 have V:(cw l h.at_).drop h.aG=cut (cw l h.at_) (aa h.aG) (aa h.len):=by refine(?_:_=List.drop h.aG (List.take h.len _));rw[sQ<|dn E]
 unfold ends;rw[B.1,V,E,IK _ (by rw[d6];exact(GF _ 2).trans ((GF _ 2).trans B.2)),IK _ B.2];refine(?_:_+(0*256+h.bG.nn+(0*256+(h.len-h.aG)+0))+_=_);rw[NQ ..,fQ ..,fQ ..,XC ..];exact aw (·+_)<|jY _ _
theorem ah3(he:a%2=0)(ho:e<=a\/a+2<=b)(h1:(cS b e lo hi).1<=i)(h2:i<(cS b e lo hi).2):¬(i=a\/i=a+1):=by
 refine bu (yV he) λk B=>?_;subst B;unfold cS at h1 h2;by_cases c:min e hi<=max b lo
 ·rw[aC c] at h2;exact aT h2<|Cu _
 ·rw[aB c] at h1 h2;refine bZ ho (λho=>?_) λho=>?_
  ·have:=cL h2<|pU 2<|wU (c:=2)<|gZ<|au (Hj e hi) ho;rw[GC (dc rfl) k 1,zl] at this;exact λq=>q.elim (ju this)<|ju<|MZ this
  ·have:=au (pU 2<|wU (c:=2)<|au ho<|Nat.le_max_left b lo) h1;rw[show 2*k+2=2*(k+1) from rfl,X6 _ (by decide:0<2),zl] at this;exact λq=>q.elim (λq=>apE this<|rwl q<|G3<|dl rfl) λq=>apE this<|rwl q<|wy _
theorem Wz(he:a%2=0)(off:e<=a\/a+2<=s)(hl:l.length=p.length)(h1:lo%2=0)(h2:lo<=hi)(d:hi<=l.length)(h4:hi%2=0\/hi=l.length)
  (f:∀i,lo<=i->¬(s<=i/\i<e)->l.getD i 0=p.getD i 0)(hb:∀x∈l,x<256)(hc:Cg c (r+b9 (cut (cw l a) (aa lo)<|aa hi))):
  Cg (hJ l p c<|cS s e lo hi) (r+b9 (cut (cw p a) (aa lo)<|aa hi))/\(c<=65534->hJ l p c (cS s e lo hi)<=65534):=
 have k:=λ{q:z0} i (u:(cS s e lo hi).1<=i) (w:i<(cS s e lo hi).2)=>show q.getD i 0=(cw q a).getD i 0 by rw[jy ..,aB<|ah3 he off u w]
 m1 (l:=cw l a) (p:=cw p a) (a:=l) (b:=p) (by rw[fk ..,fk ..,hl]) h1 h2 (by rw[fk ..];exact d) (by rw[fk ..];exact h4) (λi hi Z q=>by rw[jy ..,jy ..,f i hi q]) (xM hb) (fk _ _).symm (by rw[fk ..,hl]) k k hc
theorem KZ(st:eX h):12<=h.len:=au (by decide:12<=20+2)<|au (sU st.ok.jL 2) st.aG
theorem akS(st:eX h)(hl:l.length=h.len)(eZ:p.length=l.length)(hb:∀x∈l,x<256)(hr:Right h l)(ho:h.ay=ae->e<=10\/12<=s)(a:∀i,¬(s<=i/\i<e)->l.getD i 0=p.getD i 0):
  (cond h.ay [((10:Nat),[cS s e 0 h.aG])] []).foldl (ix h.bG.kN l) p=fK h p:=by
 unfold fK;induction B:h.ay using aS with|false=>rfl|true=>have J:(h.bG.kN&&((10:Nat) !=10))=aq:=y6 _;show(if (h.bG.kN&&(10 !=10))=ae/\_ then p else dy p 10 2 (tW (h.bG.kN&&(10 !=10))<|hJ l p (w2 l 10)<|cS s e 0 h.aG))=dy (cw p 10) 10 2 _;rw[J,aB λq=>dq q.1,D0 (eZ▸rwl hl (KZ st)),tW,aB λq=>dq q.1];have E:=hr.r4 B;have:=Wz (r:=0) (c:=w2 l 10) (lo:=0) (hi:=h.aG) rfl (ho B) eZ.symm rfl (nP _) (rwl hl<|au (cZ _ 2) st.aG) (.inl st.FO) (λi Z=>a i) hb (by rw[E,fQ ..];exact xQ _);replace this:=(fQ ..)▸this;exact aw (dy p 10 2)<|AZ this.1<|this.2<|rwl E<|xP _
theorem Ia(hp:12<=p.length)(hi:h.ay=ae->i<10\/12<=i):(fK h p).getD i 0=p.getD i 0:=by unfold fK;induction B:h.ay using aS with|false=>rfl|true=>refine(?_:(dy (cw p 10) 10 2 _).getD i 0=_);rw[D0 hp,p9 hp ..,aB λq=>(hi B).elim (λw=>CL w q.1) λw=>CL q.2 w]
theorem akT(st:eX h)(hl:l.length=h.len)(a:q.length=h.len)(hb:∀x∈l,x<256)(d:h.T)(f:h.at_+2<=h.len)(hg:w2 l h.at_=cond h.bare 0 (h.bG.fin<|ff<|b9<|ends h (cw l h.at_)++(cw l h.at_).drop h.aG))
  (ho:e<=h.at_\/h.at_+2<=s)(b:∀i,(h.ay=ae->12<=i)->¬(s<=i/\i<e)->l.getD i 0=q.getD i 0):ix h.bG.kN l q (h.at_,h.pT s e)=qB h q:=by
 have B:20<=h.aG:=st.ok.jL;have S:(h.at_ !=10)=ae:=bne_iff_ne.mpr λq=>aT (au B<|EH h) (rwl q (by decide));unfold qB ix;dsimp only;rw[S,Cv ..];have V:∀i,(i=h.at_\/i=h.at_+1)->l.getD i 0=q.getD i 0:=λi hi=>b i (λZ=>hi.elim (λq=>rwl q<|au (au (dl rfl) B)<|EH h) λq=>rwl q<|zp<|au (au (dl rfl) B)<|EH h) λw=>by lia
 induction M:h.bare using aS with
 |true=>
  replace hg:=(M)▸hg;rw[aC ⟨by rw[st.bare M];rfl,hg⟩];refine(?_:q=cw q h.at_);refine xu (fk _ _).symm λi Z=>?_;rw[jy ..];by_cases c:i=h.at_\/i=h.at_+1
  ·rw[aC c,<-V i c];have g:=hg;have g:=Nat.add_eq_zero_iff.mp g;exact c.elim (λc=>rwl c<|(Nat.mul_eq_zero.mp g.1).resolve_right<|dc rfl) λc=>rwl c g.2
  ·rw[aB c]
 |false=>
  replace hg:=(M)▸hg;change _=h.bG.fin _ at hg;have O:h.at_%2=0:=(Nat.add_mod _ _ 2).trans (by rw[st.FO,show h.bG.off%2=0 by induction h.bG using Pr.casesOn<;>rfl]);have R:=akR h.bG<|b9<|ends h (cw l h.at_)++(cw l h.at_).drop h.aG;rw[<-hg,whole st hl] at R;refine aW (Wz (lo:=h.aG) (hi:=h.len) O ho (hl.trans a.symm) st.FO (au (cZ _ 2) st.aG) (dn hl.symm) (.inr hl.symm) (λi hi=>b i λZ=>au (au (dl rfl) B) hi) hb R) λE g2=>?_;have g3:Cg ((h.pT s e).foldl (hJ l q)<|w2 l h.at_) (b9<|ends h (cw q h.at_)++(cw q h.at_).drop h.aG)/\(w2 l h.at_<=65534->(h.pT s e).foldl (hJ l q) (w2 l h.at_)<=65534):=by
   rw[whole st a,sF ..];rw[sF] at E;unfold Hd.pT;induction J:h.ay using aS with
   |true=>
    rw[J] at E;have:=m1 (lo:=12) (hi:=20) (s:=s) (e:=e) (hl.trans a.symm) rfl (dl rfl) (rwl hl<|au B<|au (cZ _ 2) st.aG) (.inl rfl) (λi hi Z=>b i λZ=>hi) hb rfl (a.trans hl.symm) (λZ Z Z=>rfl) (λZ Z Z=>rfl) E;exact⟨this.1,λh=>this.2<|g2 h⟩
   |false=>
    rw[J] at E;have:=m1 (lo:=8) (hi:=40) (s:=s) (e:=e) (hl.trans a.symm) rfl (dl rfl) (rwl hl<|au (dn (st.ok.six J).symm)<|au (cZ _ 2) st.aG) (.inl rfl) (λi Z Z=>b i λq=>aT (J.symm.trans q) dq) hb rfl (a.trans hl.symm) (λZ Z Z=>rfl) (λZ Z Z=>rfl) E;exact⟨this.1,λh=>this.2<|g2 h⟩
  refine(?_:_=dy (cw q h.at_) h.at_ 2 _);rw[D0 (a▸f)];induction P:h.bG using Pr.casesOn with
  |gz=>exact aT P d.2
  |dY=>
   rw[aB λh=>dq h.1];refine aw (dy q h.at_ 2) ?_;show(if aq=ae/\_ then _ else _)=_;rw[aB λh=>dq h.1];refine AZ g3.1<|g3.2 ?_;rw[hg,P];exact xP _
  |e6=>
   have Y:∀x,¬Pr.e6.fin x=0:=λx=>by
    show¬(if _ then 65535 else _)=0;split
    ·decide
    ·assumption
   rw[aB λw=>Y _ (P▸hg.symm.trans w.2)];exact aw (dy q h.at_ 2)<|ah2 g3.1
theorem ae0{h:Hd}(st:eX h)(hl:l.length=h.len)(hb:∀x∈l,x<256)(hr:Right h l)(hk:s+k<=h.len)(ho:Off h s (s+k)):AY h l s k v=ja h (dy l s k v):=by
 have E:s+k<=l.length:=rwl hl hk;have eZ:=qb (l:=l) v E;have J:∀i,¬(s<=i/\i<s+k)->l.getD i 0=(dy l s k v).getD i 0:=λi hi=>by rw[p9 E ..,aB hi]
 unfold AY;generalize dy l s k v=p at*;have B:(fK h p).length=h.len:=(Aj (eZ▸rwl hl (KZ st))).trans<|eZ.trans hl;unfold rowsOf;rw[Yb,akS st hl eZ hb hr ho.1 J];unfold ja;by_cases c:h.T/\h.at_+2<=h.len
 ·rw[qp c,aB λx=>(xR B).mp x c];exact akT st hl B hb c.1 c.2 (hr.rT c.1 c.2) ho.2 λi hi M=>(J i M).trans (Ia (eZ▸rwl hl (KZ st)) λw=>.inr<|hi w).symm
 ·rw[rY c,aC<|(xR B).mpr c];rfl
theorem Sn(h:a+2<=l.length)(hc:c<65536):w2 (dy l a 2 c) a=c:=by unfold w2;rw[p9 h ..,p9 h ..,aC (by lia),aC (by lia),k7 ..,CM ..];exact amO hc
theorem ae1(h:a+2<=l.length):cw (dy l a 2 c) a=cw l a:=by
 refine xu (by rw[fk ..,fk ..,qb _ h]) λi Z=>?_;rw[jy ..,jy ..,p9 h ..];split
 ·rfl
 ·rw[aB (by lia)]
theorem ah4(l)(a):cw (cw l a) a=cw l a:=by refine xu (fk _ _) λi Z=>?_;rw[jy ..,jy ..];split<;>rfl
theorem akU(l)(a):w2 (cw l a) a=0:=by unfold w2;rw[jy ..,jy ..,aC<|.inl rfl,aC<|.inr rfl]
theorem akV(p:Pr)(S):p.fin (ff S)<65536:=by
 have:=xP S;unfold Pr.fin;split
 ·split<;>lia
 ·exact bS (by assumption) (by decide)
theorem Ra(a:h.at_+2<=q.length):(qB h q).length=q.length:=by
 unfold qB;induction h.bare using aS
 ·exact(qb _ (by rw[fk ..];exact a)).trans (fk _ _)
 ·exact fk _ _
theorem Qh(a:h.at_+2<=q.length)(hi:¬(i=h.at_\/i=h.at_+1)):(qB h q).getD i 0=q.getD i 0:=by
 unfold qB;induction h.bare using aS
 ·refine(?_:(dy (cw q h.at_) h.at_ 2 _).getD i 0=_);rw[p9 (by rw[fk ..];exact a) ..,aB (by lia),jy ..,aB hi]
 ·refine(?_:(cw q h.at_).getD i 0=_);rw[jy ..,aB hi]
set_option tactic.hygienic true in
theorem HI(st:eX h)(hl:p.length=h.len):(ja h p).length=h.len:=by
 have E:=st.ok.jL;have J:=st.aG;have B:(fK h p).length=h.len:=(Aj (by lia)).trans hl;unfold ja;split
 ·exact B
 ·rename_i c;rw[xR B,apF] at c;rw[Ra (by lia),B]
theorem Ib(hb:∀x∈p,x<256):∀x∈ja h p,x<256:=by
 unfold ja;split
 ·exact Ec hb
 ·unfold qB;induction h.bare using aS
  ·exact xA<|xM<|Ec hb
  ·exact xM<|Ec hb
set_option tactic.hygienic true in
theorem OO(st:eX h)(hl:p.length=h.len)(hi:i<10):(ja h p).getD i 0=p.getD i 0:=by
 have E:=st.ok.jL;have J:=st.aG;have M:h.aG<=h.at_:=cZ _ _;have B:(fK h p).length=h.len:=(Aj (by lia)).trans hl;unfold ja;split
 ·exact Ia (by lia) λZ=>.inl hi
 ·rename_i c;rw[xR B,apF] at c;rw[Qh (by lia) (by lia)];exact Ia (by lia) λZ=>.inl hi
theorem Ow(st:eX h)(hl:p.length=h.len):Right h (ja h p):=by
 have d:=st.ok.jL;have f:=st.aG;have g:h.aG+6<=h.at_:=by
  unfold Hd.at_;have:6<=h.bG.off:=by induction h.bG using Pr.casesOn<;>exact dc rfl
  lia
 have J:(fK h p).length=h.len:=(Aj (by lia)).trans hl;have B:h.ay=ae->∀r:z0,r.length=h.len->(∀i,i<h.aG->r.getD i 0=(fK h p).getD i 0)->w2 r 10=ff (b9<|(cw r 10).take h.aG):=by
  intro E r T M;have e:fK h p=dy p 10 2 (ff<|b9<|(cw p 10).take h.aG):=by unfold fK;rw[E];exact D0 (by lia)
  have V:w2 r 10=w2 (fK h p) 10:=by unfold w2;rw[M 10 (by lia),M 11 (by lia)]
  have Y:(cw r 10).take h.aG=(cw p 10).take h.aG:=by
   refine xu (by rw[gf,gf,fk ..,fk ..,T,hl]) λi O=>?_;replace O:=(gf)▸O;have R:∀q:z0,(q.take h.aG).getD i 0=q.getD i 0:=λq=>by rw[fy,NA,aC (by lia),fy]
   rw[R ..,R ..,jy ..,jy ..];split
   ·rfl
   ·rw[M i (by lia),e,p9 (by lia) ..,aB (by lia)]
  rw[V,Y,e,Sn (by lia) (by have:=xP<|b9<|(cw p 10).take h.aG;exact bS (by assumption) (by decide))]
 unfold ja;by_cases c:h.no (fK h p)
 ·rw[aC c];exact⟨λE=>B E _ J λZ Z=>rfl,λa b=>aT ⟨a,b⟩<|(xR J).mp c⟩
 ·rw[aB c];have j:=apF.mp λx=>c<|(xR J).mpr x;have P:h.at_+2<=(fK h p).length:=by lia
  refine⟨λE=>B E _ ((Ra P).trans J) λi O=>Qh P (by lia),λZ Z=>?_⟩;generalize fK h p=q at*;unfold qB;induction h.bare using aS with|true=>exact akU _ _|false=>
   refine(?_:w2 (dy (cw q h.at_) h.at_ 2 _) h.at_=h.bG.fin (ff<|b9<|ends h (cw (dy (cw q h.at_) h.at_ 2 _) h.at_)++(cw (dy (cw q h.at_) h.at_ 2 _) h.at_).drop h.aG));have S:h.at_+2<=(cw q h.at_).length:=by rw[fk ..];exact P
   rw[Sn S<|akV _ _,ae1 S,ah4 ..]
end
section
open PySem
def base(σ:Sg):Nat:=(M σ []).length
theorem oI(σ)(g)(i):(M σ g)[base σ+i]?=g[i]?:=by have:=qk σ [] g;rw[G1] at this;rw[<-this,nS (show(M σ []).length<=base σ+i from cZ _ _),base,CM ..]
theorem A0(σ)(g)(i)(y):(M σ g).set (base σ+i) y=M σ (g.set i y):=by have B:=qk σ [] g;have E:=qk σ [] (g.set i y);rw[G1] at B E;rw[<-B,<-E,CU _ _ (show(M σ []).length<=base σ+i from cZ _ _),base,CM ..]
theorem vj(σ)(g):(M σ g).length=base σ+g.length:=by have B:=qk σ [] g;rw[G1] at B;rw[<-B,d6];rfl
inductive Ce where|cnt(a b:Nat)|dZ (o:Bool) (a b:Nat)
noncomputable def Ce.ctorIdx(t:Ce):Nat:=Ce.casesOn t (λZ Z=>0) λZ Z Z=>1
def Ce.toV:Ce->V|.cnt a b=>.tup [.str lh,nV a,nV b]|.dZ o a b=>.tup [.str lY,.bool o,nV a,nV b]
def Ce.cls:Ce->Nm|.cnt _ _=>th|.dZ _ _ _=>rF
def Ce.obj:Ce->O|.cnt a b=>.aA [(zU,nV a),(g8,nV b)]|.dZ o a b=>.aA [(xl,.bool o),(g8,nV a),(vh,nV b)]
noncomputable def Ce.next(len:Nat):Ce->Ce|.cnt a b=>.cnt (a+1) (b+len)|.dZ o a b=>.dZ o a<|b+len
def Ce.says(len:Nat):Ce->V|.cnt _ _=>.none|.dZ o a b=>cond (decide (a<=b+len)==o) .none fD
theorem iS(ho:aR c x=ae)(h:m[i]?=aa (.aA l))(hx:look x l=aa v):E1 aR m (.inst c i) x=aa v:=by exact(aw (cond · (E0 x m[i]?) ag) ho).trans ((aw (E0 x) h).trans hx)
theorem lb(ho:aR c x=ae)(h:m[i]?=aa (.aA l))(hl:l.length<100000)(v):DQ aR m (.inst c i) x v=aa (m.set i<|.aA<|putD x v l):=by exact(aw (cond · (E2 m i x v m[i]?) ag) ho).trans ((aw (E2 m i x v) h).trans<|aC hl)
theorem xS(h1:(nt.contains c&&nt.contains x)=ae)(h:m[i]?=aa (.aA l)):A3 m (.inst c i) (.fn x)=aa (.bool<|decide<|c=x):=by exact(aC h1).trans (aw (λo=>(rZ o).map λZ=>V.bool<|decide<|c=x) h)
theorem ah5(n:Nat)(g:J)(ok:iE σ){ce:Ce}(h:g[i]?=aa ce.obj):bq (n+4) DU [bD,.inst ce.cls<|base σ+i] (M σ g)=.ok (ce.says σ.h.len) (M σ<|g.set i (ce.next σ.h.len).obj):=by
 have B:=(oI σ g i).trans h;have O:=ok.len;refine fE [] ?_;induction ce using Ce.casesOn with
 |cnt a b=>
  refine aJ (jC (l:=σ.P.aL) rfl (by rw[ok.aL];exact au (by assumption) (by decide))) ?_;rw[ok.aL];refine aJ (xS (by kernel_rfl) B) (IJ (iS (by kernel_rfl) B rfl) (H8 (lb (by kernel_rfl) B (by exact(show 2<100000 by decide)) _) (IJ (iS (by kernel_rfl) (my B) rfl) (H8 (lb (by kernel_rfl) (my B) (by exact(show 2<100000 by decide)) _) ?_))));rw[wN ..,A0 ..];exact rfl
 |dZ o a b=>
  refine aJ (jC (l:=σ.P.aL) rfl (by rw[ok.aL];exact au (by assumption) (by decide))) ?_;rw[ok.aL];refine aJ (xS (by kernel_rfl) B) (aJ (xS (by kernel_rfl) B) (IJ (iS (by kernel_rfl) B rfl) (H8 (lb (by kernel_rfl) B (by exact(show 3<100000 by decide)) _) ?_)));rw[A0 ..];have E:(M σ<|g.set i (Ce.next σ.h.len<|.dZ o a b).obj)[base σ+i]?=aa (Ce.next σ.h.len<|.dZ o a b).obj:=by rw[oI ..,my h]
  change kB aR _ _ _ (M σ<|g.set i (Ce.next σ.h.len<|.dZ o a b).obj) _;rfl';have fin:∀K:KR,K (.ok (Ce.says σ.h.len<|.dZ o a b)<|M σ<|g.set i (Ce.next σ.h.len<|.dZ o a b).obj)->K (.ok (cond (decide (a<=b+σ.h.len)==o) .none fD)<|M σ<|g.set i (Ce.next σ.h.len<|.dZ o a b).obj):=λK h=>h;refine aJ (iS (by kernel_rfl) E rfl) ?_;induction o using aS with
  |true=>
   refine aJ (iS (by kernel_rfl) E rfl) (aJ (iS (by kernel_rfl) E rfl) (cG (λc=>?_) λc=>?_))
   ·rfl';rw[Ce.says,decide_eq_true (show a<=b+σ.h.len by lia)];rfl
   ·rfl';rw[Ce.says,decide_eq_false (show¬a<=b+σ.h.len by lia)];rfl
  |false=>
   refine aJ (iS (by kernel_rfl) E rfl) (aJ (iS (by kernel_rfl) E rfl) (cG (λc=>?_) λc=>?_))
   ·rfl';rw[Ce.says,decide_eq_false (show¬a<=b+σ.h.len by lia)];rfl
   ·rfl';rw[Ce.says,decide_eq_true (show a<=b+σ.h.len by lia)];rfl
theorem AH{m:J}{j:Nat}{l:List (Int×V)}{p:Nat}{v:V}(h:m[j]?=aa (.bW l))(hx:gp p l=aa v):ky m (.ref j) (nV p)=aa v:=by unfold ky;rw[jd h];dsimp only;rw[h];exact hx
theorem ah6{m:J}{j:Nat}{l:List (Int×V)}{p:Nat}{b:Bool}(h:m[j]?=aa (.bW l))(hx:(gp p l).isSome=b):fF m .lu (nV p) (.ref j)=aa (.bool !b):=by refine(?_:(qn m (nV p)<|.ref j).map (λx=>V.bool !x)=_);unfold qn;rw[jd h];dsimp only;rw[h,<-hx];rfl
theorem Ef{m:J}{j:Nat}{l:List (Int×V)}(h:m[j]?=aa (.bW l))(hl:l.length<100000)(p)(v):uS m (.ref j) (nV p) v=aa (m.set j<|.bW<|mj p v l):=by exact(aw (AU m j (nV p) v) h).trans (aC hl)
theorem ae2(n:Nat){σ:Sg}(g:J)(ok:iE σ){ce:Ce}{a c i p:Nat}{d:Lb}{e:List (Int×V)}(hr:g[a]?=aa (.aA d))(f:look k_cells d=aa (.ref<|base σ+c))(hc:g[c]?=aa (.bW e))
  (hp:gp p e=aa (.inst ce.cls<|base σ+i))(hi:g[i]?=aa ce.obj)(s:V):bq (n+5) k9 [bD,s,.inst d8<|base σ+a,nV p] (M σ g)=.ok (ce.says σ.h.len) (M σ<|g.set i (ce.next σ.h.len).obj):=by
 have B:=(oI σ g a).trans hr;have E:=(oI σ g c).trans hc;refine fE [DU] (aJ (iS (by kernel_rfl) B f) ?_);refine aJ (ah6 (b:=ae) E (by rw[hp];rfl)) ?_;exact aJ (iS (by kernel_rfl) B f)<|aJ (AH E hp)<|aM (ah5 n g ok hi) rfl
theorem acT(n){σ:Sg}(g)(ho:σ.L.aL.length=σ.h.len)(hl:σ.h.len<=100){ce:Ce}{jc p:Nat}{cl:List (Int×V)}(hk:σ.kc=base σ+jc)(hc:g[jc]?=aa (.bW cl))(d:cl.length<=100)
  (hp:gp p cl=aa ce.toV):bq (n+1) zy [.ref 7,nV p] (M σ g)=.ok (ce.says σ.h.len) (M σ<|g.set jc<|.bW<|mj p (ce.next σ.h.len).toV cl):=by
 have B:(M σ g)[σ.kc]?=aa (.bW cl):=by rw[hk];exact(oI σ g jc).trans hc
 have E:=(eV _).trans ho;refine fE [] ?_;induction ce using Ce.casesOn with
 |cnt a b=>
  refine aJ (AH B hp) (aJ (uW (l:=bH σ.L.aL) rfl (by lia)) ?_);rw[E];refine dQ (Ef B (by exact bS (by assumption) (by decide)) _ _) ?_;rw[hk,A0 ..];rfl
 |dZ o a b=>
  refine aJ (AH B hp) (aJ (uW (l:=bH σ.L.aL) rfl (by lia)) ?_);rw[E];refine dQ (Ef B (by exact bS (by assumption) (by decide)) _ _) ?_;rw[hk,A0 ..];refine cG (λc=>?_) λc=>?_
  ·induction o using aS<;>
   ·rfl';rw[Ce.says,decide_eq_true (show a<=b+σ.h.len by lia)];rfl
  ·induction o using aS<;>
   ·rfl';rw[Ce.says,decide_eq_false (show¬a<=b+σ.h.len by lia)];rfl
noncomputable abbrev Cs:=List<|Nat×Ce
noncomputable def Cs.at(a:Cs)(p:Nat):Option Ce:=(a.find? λq=>q.1==p).map (·.2)
noncomputable def Cs.upd(a:Cs)(p:Nat)(f:Ce->Ce):Cs:=a.map λq=>if q.1=p then(q.1,f q.2) else q
noncomputable def Cs.cf(a:Cs):List (Int×V):=a.map λq=>((q.1:Int),q.2.toV)
noncomputable def Cs.rule(a:Cs)(at_:Nat->Nat):List (Int×V):=a.map λq=>((q.1:Int),.inst q.2.cls<|at_ q.1)
theorem IV(F:Nat×Ce->V)(p:Nat):∀a:Cs,gp p (a.map λq=>((q.1:Int),F q))=(a.find? λq=>q.1==p).map F
 |[]=>rfl
 |q::a=>by
  rw[iN,aix ..,Cw,IV F p a];by_cases c:q.1=p
  ·rw[aC (by rw[c]),show(q.1==p)=ae from bO.mpr c];rfl
  ·rw[aB (λh:(p:Int)=(q.1:Int)=>c (by lia)),show(q.1==p)=aq from beq_eq_false_iff_ne.mpr c]
theorem TR{a:Cs}{p:Nat}{ce:Ce}(h:a.at p=aa ce):gp p a.cf=aa ce.toV:=by rw[IV ..];refine ej h λq B E=>rws E ?_;rw[B];rfl
theorem So{a:Cs}{p:Nat}{ce:Ce}{at_:Nat->Nat}(h:a.at p=aa ce):gp p (a.rule at_)=aa (.inst ce.cls<|at_ p):=by unfold Cs.rule;rw[IV λq=>.inst q.2.cls (at_ q.1) ..];refine ej h λq B E=>rws E ?_;have:q.1=p:=bO.mp (Nt (p:=λq:Nat×Ce=>q.1==p) B);rw[B,<-this];rfl
theorem Sp{p:Nat}{ce b:Ce}{f:Ce->Ce}(hf:f ce=b):∀{a:Cs},(a.map (·.1)).Nodup->a.at p=aa ce->mj p b.toV a.cf=(a.upd p f).cf
 |[],_,h=>by exact bk h
 |q::a,B,h=>by
  rw[iN,mW] at B;unfold Cs.cf Cs.upd;rw[iN,iN,iN,JM ..];unfold Cs.at at h;replace h:=(Cw)▸h;by_cases c:q.1=p
  ·rw[aC (by rw[c]),aC c];replace h:=(show(q.1==p)=ae from bO.mpr c)▸h
   (have E:=bf h;subst E)
   rw[hf];congr 1;rw[iM];refine GX λJ M=>?_;have:J.1≠p:=λe=>B.1 (by rw[c,<-e];exact zq M);rw[Function.comp,aB this]
  ·rw[aB (λh:(p:Int)=(q.1:Int)=>c (by lia)),aB c];replace h:=(show(q.1==p)=aq from beq_eq_false_iff_ne.mpr c)▸h;congr 1;exact Sp hf B.2 h
noncomputable def pz(f:mV->Bool)(v:V):Bool:=match v with|.tup l=>f l|.none=>ae|.bool _=>ae|.int _=>ae|.str _=>ae|_=>aq
def pl(n:Nat):V->Bool:=Nat.rec (motive:=λZ=>V->Bool) (pz λZ=>aq) (λZ f=>pz λl=>l.all f) n
theorem EI{P:V->Prop}(t:∀l,f l=ae->P (.tup l))(z:P .none)(b:∀b,P<|.bool b)(i:∀i,P<|.int i)(s:∀x,P<|.str x)(h:pz f v=ae):P v:=by induction v using V.casesOn with|tup l=>exact t l h|none=>exact z|bool x=>exact b x|int x=>exact i x|str x=>exact s x|_=>exact dG h
theorem JE(h:∀v∈l,f v v=aa ae):eqZ f l l=aa ae:=by
 induction l with|nil=>rfl|cons a l B=>
  refine(?_:(match f a a,eqZ f l l with|some x,aa y=>aa (x&&y)|_,_=>ag)=_)
  rw[h a dE,B λv E=>h v<|dT _ E];rfl
theorem Uw:∀{v:V},pl n v=ae->ib n v v=aa ae:=by induction n with|zero=>exact EI (P:=λv=>ib 0 v v=aa ae) (λl h=>dG h) rfl (λb=>aw aa<|beq_self_eq_true b) (λb=>aw aa<|beq_self_eq_true b) (λb=>aw aa<|beq_self_eq_true b)|succ n B=>exact EI (P:=λv=>ib (n+1) v v=aa ae) (λl h=>JE λv E=>B<|List.all_eq_true.mp h v E) rfl (λb=>aw aa<|beq_self_eq_true b) (λb=>aw aa<|beq_self_eq_true b) (λb=>aw aa<|beq_self_eq_true b)
theorem FP(h:∀f,pz f v=ae):pl m v=ae:=qX (motive:=λm=>pl m v=ae) m (h _) λZ=>h _
theorem ah7:∀{m:Nat}{v},n<=m->pl n v=ae->pl m v=ae:=by induction n with|zero=>exact λ{m}{v} Z=>EI (P:=λv=>pl m v=ae) (λl h=>dG h) (FP λZ=>rfl) (λZ=>FP λZ=>rfl) (λZ=>FP λZ=>rfl) (λZ=>FP λZ=>rfl)|succ n E=>intro m v B;induction m using qX with|zero=>exact aT B (Nat.not_succ_le_zero n)|succ m=>exact EI (P:=λv=>pl (m+1) v=ae) (λl h=>List.all_eq_true.mpr λv J=>E (NR B)<|List.all_eq_true.mp h v J) rfl (λZ=>rfl) (λZ=>rfl) (λZ=>rfl)
structure dO(h:Hd)(n:Nat)(a:Ab):Prop where
 aL:a.aL.length=h.len
 lt:∀b∈a.aL,b<256
 right:Right h a.aL
 My:uy h a.aL
 cB:a.cB<2^32
 pri:a.pri<2^32
 st:a.st<2^32
 ct:∀k,a.ct=aa k->k<2^32
 log:a.log.length<=n
 rep:a.rep.length<=n
 K1:∀v∈a.log,pl 60 v=ae
 K2:∀v∈a.rep,pl 60 v=ae
theorem dO.mono(x:dO h n a)(hn:n<=b):dO h b a:={x with log:=au x.log hn,rep:=au x.rep hn}
theorem D1(st:eX h)(x:dO h n a):∀{f}{k},value h a f=aa k->k<2^(8*f.dm)
 |.o f,k,e=>by
  exact ej e λs Z E=>rws E (Sd (λb J=>x.lt b<|rb<|k8 J)<|apH _ _)
 |.cB,k,e=>by(have B:=bf e;subst B);exact x.cB
 |.pri,k,e=>by(have B:=bf e;subst B);exact x.pri
 |.kK,k,e=>x.ct k e
 |.l4,k,e=>by(have B:=bf e;subst B);induction h.bG using Pr.casesOn<;>exact dc rfl
 |.len,k,e=>by(have B:=bf e;subst B);exact fa (b:=7) (dl rfl)<|bS st.len<|dl rfl
 |.st,k,e=>by(have B:=bf e;subst B);exact x.st
 |.nf,k,e=>by(have B:=bf e;subst B);induction h.ay using aS<;>decide
noncomputable def Sr.In(w:Nat):Sr->Prop|.num n=>n<2^(8*w)|.fld f=>f.dm=w|.kL _ f n=>f.dm=w/\n<2^(8*w)
theorem Sr.In.wj{e:Sr}(h:e.In w):e.jT:=by induction e using Sr.casesOn with|kL o f n=>have B:=h;clear h;refine aW B λE h=>?_;subst E;exact h|_=>trivial
theorem Qi(st:eX h)(x:dO h n a)(hi:e.In w)(hv:source h a e=aa v):v<2^(8*w):=by induction e using Sr.casesOn with|num n=>(have M:=bf hv;subst M);exact hi|fld f=>rw[<-show f.dm=w from hi];exact D1 st x hv|kL o f n=>refine aW hi λB J=>?_;subst B;refine ej hv λk O B=>?_;subst B;have E:=D1 st x O;induction o using Wo.casesOn with|mask=>exact bS Nat.and_le_left E|or=>exact NO E J|xor=>exact bS (gR _ _) (NO E J)
noncomputable def Sm.Good:Sm->Prop
 |.set f e=>f.Set/\e.In f.dm
 |.nat _ _ ad _ B=>(∀v∈B,pl 50 v=ae)/\match ad with
  |.map _ l=>∀x∈l,x.Nums
  |_=>True
 |_=>True
set_option tactic.hygienic true in
theorem acU(hd:r8 h)(hf:lF f)(e:h.eI f=aa s)(h4:h.ay=ae):0<s:=by
 unfold Hd.eI at e;split at e
 ·rename_i E;rw[h4] at e;(have B:=bf e;subst B);exact hf.pos E
 ·rw[h4] at e;exact bk e
 ·split at e
  ·(have B:=bf e;subst B);have:=hd.jL;lia
  ·exact bk e
set_option tactic.hygienic true in
theorem ah8(st:eX h)(x:dO h n a)(hf:f.Ok)(hv:v<2^(8*f.dm)):dO h n (jN h a v f).2:=by
 induction f using Fd.casesOn with
 |o f=>
  unfold jN;dsimp only;induction B:h.eI f using aO with
  |none=>exact x
  |some s=>
   have J:s+f.many<=h.len:=by
    have:=st.ok.jL;have:=st.aG;unfold Hd.eI at B;split at B
    ·rename_i e;have:=lF.ip hf e;induction E:h.ay using aS<;>rw[E] at B<;>cases B
     lia
    ·rename_i e;have:=lF.il hf e;induction E:h.ay using aS<;>rw[E] at B<;>cases B
     have:=st.ok.six E;lia
    ·split at B
     ·rename_i c;(have O:=bf B;subst O);exact c.2.2
     ·exact bk B
   have M:=(qb v (by rw[x.aL];exact J)).trans x.aL;refine{x with aL:=HI st M,lt:=Ib<|xA x.lt,right:=Ow st M,My:=λE=>?_};have S:=acU st.ok hf B E;refine(?_:(ja h<|dy a.aL s f.many v).getD 0 0%16*4=h.aG);rw[OO st M<|dl rfl,p9 (by rw[x.aL];exact J) ..,aB (by lia)];exact x.My E
 |cB=>exact{x with cB:=hv}
 |pri=>exact{x with pri:=hv}
 |kK=>
  exact{x with ct:=λk P=>ej (show a.ct.map (λZ=>v)=aa k from P) λZ Z R=>rws R hv}
 |_=>exact x
theorem Sq(h:∀v∈l,pl 60 v=ae)(hv:pl 60 v=ae):∀w∈l++[v],pl 60 w=ae:=λw B=>by
 refine bZ (List.mem_append.mp B) (λB=>?_) λB=>?_
 ·exact h w B
 ·rw[GL.mp B];exact hv
theorem vk(x:dO h n a)(hv:pl 60 v=ae):dO h (n+1) (a.app v):={x with
 K1:=Sq x.K1 hv
 log:=by refine(?_:(a.log++[v]).length<=_);rw[d6];have:=x.log;refine(?_:a.log.length+1<=_);lia
 rep:=zp x.rep}
theorem EJ(x:dO h n a)(hv:pl 60 v=ae):dO h (n+1) {a with rep:=a.rep++[v]}:={x with
 K2:=Sq x.K2 hv
 log:=zp x.log
 rep:=by refine(?_:(a.rep++[v]).length<=_);rw[d6];have:=x.rep;refine(?_:a.rep.length+1<=_);lia }
theorem Ss(st:eX h)(x:dO h n a):∀{s:Sm},s.Ok->s.Good->dO h (n+1) (dF h a s).2
 |.set f e,T,E=>by
  refine(?_:dO h (n+1) (tC h a f e).2);unfold tC;induction B:source h a e using aO with
  |none=>exact x.mono (g0 _)
  |some v=>exact(ah8 st x T.1<|Qi st x E.2 B).mono<|g0 _
 |.H b,_,_=>by induction b using Bd.casesOn<;>exact x.mono (g0 _)
 |.nM _ _ _,_,_=>x.mono<|g0 _
 |.mN _ _,_,_=>x.mono<|g0 _
 |.log _ _,_,_=>vk x rfl
 |.pE,_,_=>by
  refine(?_:dO h (n+1) (match a.ct with
   |none=>{a with st:=64}
   |some _=>a))
  have y:=x.mono<|g0 n;split
  ·exact{y with st:=(show 64<2^32 by decide)}
  ·exact y
 |.cnt _ _,_,_=>x.mono<|g0 _
 |.dZ _ _ _,_,_=>x.mono<|g0 _
 |.nat k S ad p Y,_,E=>by
  have fM:∀(lo M O:V)(J:mV),pl 59 lo=ae->pl 59 M=ae->pl 59 O=ae->(∀v∈J,pl 50 v=ae)->pl 60 (uf k S lo M O J)=ae:=by
   intro lo M O J c g i h4;have j:J.all (pl 58)=ae:=List.all_eq_true.mpr λv B=>ah7 (dl rfl)<|h4 v B;refine(?_:(ae&&(ae&&(pl 59 lo&&(pl 59 M&&(pl 59 O&&(J.all (pl 58)&&ae))))))=ae);rw[c,g,i,j];rfl
  have P:pl 59 (ly p)=ae:=by induction p using aO<;>rfl
  refine(?_:dO h (n+1) (tE h a k S ad p Y).2);induction ad using Ad.casesOn with
  |none=>exact vk x (fM _ _ _ _ rfl rfl P E.1)
  |span y z=>exact vk x (fM _ _ _ _ rfl rfl P E.1)
  |pC y z=>exact vk x (fM _ _ _ _ rfl rfl P λv B=>by
    refine bZ (List.mem_append.mp B) (λB=>?_) λB=>?_
    ·exact E.1 v B
    ·rw[GL.mp B];rfl)
  |map f l=>
   unfold tE;dsimp only;induction m:hit h a f l using aO with
   |none=>exact x.mono (g0 _)
   |some d=>
    refine bo (IM m) λy o q=>rws q (bZ (E.2 y o) (λR=>bu R λu e=>?_) λR=>iX R λu w e=>?_)
    ·rw[e];exact vk x<|fM _ _ _ _ rfl rfl P E.1
    ·rw[e];exact vk x<|fM _ _ _ _ rfl rfl rfl E.1
 |.lN r,_,_=>by
  induction r using Rj.casesOn with
  |dY=>
   unfold dF;dsimp only;split
   ·exact EJ x rfl
   ·exact x.mono<|g0 _
  |ug=>
   refine(?_:dO h (n+1) (cond h.ay _ _:V×Ab).2);induction h.ay using aS
   ·exact x.mono<|g0 _
   ·exact EJ x rfl
  |tL=>
   refine(?_:dO h (n+1) (cond h.ay _ _:V×Ab).2);induction h.ay using aS
   ·exact EJ x rfl
   ·exact x.mono<|g0 _
  |tU=>exact EJ x rfl
 |.mO _,_,_=>x.mono<|g0 _
 |.exp _,_,_=>vk x rfl
 |.pF,_,_=>x.mono<|g0 _
 |.dup,_,_=>x.mono<|g0 _
theorem ah9:(jN h a v f).2.ct.isSome=a.ct.isSome:=by induction f using Fd.casesOn with|o f=>unfold jN;dsimp only;induction h.eI f using aO<;>rfl|kK=>refine(?_:(a.ct.map λZ=>v).isSome=_);induction a.ct using aO<;>rfl|_=>rfl
theorem Su:∀{s},(dF h a s).2.ct.isSome=a.ct.isSome
 |.set f e=>by
  refine(?_:(tC h a f e).2.ct.isSome=_);unfold tC;induction source h a e using aO
  ·rfl
  ·exact ah9
 |.H b=>by induction b using Bd.casesOn<;>rfl
 |.nM _ _ _=>rfl
 |.mN _ _=>rfl
 |.log _ _=>rfl
 |.pE=>by
  refine(?_:(match a.ct with
   |none=>{a with st:=64}
   |some _=>a:Ab).ct.isSome=_)
  split<;>simp_all
 |.cnt _ _=>rfl
 |.dZ _ _ _=>rfl
 |.nat k B ad p E=>by
  refine(?_:(tE h a k B ad p E).2.ct.isSome=_);induction ad using Ad.casesOn with
  |map f l=>
   refine(?_:(match hit h a f l with
    |none=>(fD,a)
    |some [x,y]=>(tD,a.app<|uf k B x x (.tup [y,y]) E)
    |some [x]=>(tD,a.app<|uf k B x x (ly p) E)
    |some _=>(fD,a):V×Ab).2.ct.isSome=_)
   induction hit h a f l using aO with
   |none=>rfl
   |some l=>induction l using dz with
    |nil=>rfl
    |cons x l=>induction l using dz with
     |nil=>rfl
     |cons y l=>induction l using dz<;>rfl
  |_=>rfl
 |.lN r=>by
  induction r using Rj.casesOn with
  |dY=>
   unfold dF;dsimp only;split<;>rfl
  |ug=>refine(?_:(cond h.ay _ _:V×Ab).2.ct.isSome=_);induction h.ay using aS<;>rfl
  |tL=>refine(?_:(cond h.ay _ _:V×Ab).2.ct.isSome=_);induction h.ay using aS<;>rfl
  |tU=>rfl
 |.mO _=>rfl
 |.exp _=>rfl
 |.pF=>rfl
 |.dup=>rfl
def cX(h:Hd)(s:Sm)(p:Nat)(x:Ab×Cs):V×(Ab×Cs):=cond s.iT (match x.2.at p with|some B=>(B.says h.len,x.1,x.2.upd p<|Ce.next h.len)|none=>(.none,x)) ((dF h x.1 s).1,(dF h x.1 s).2,x.2)
noncomputable def dD(h:Hd):List Sm->Nat->Ab×Cs->V×(Ab×Cs)|[],_,x=>(.none,x)|s::r,p,x=>match(cX h s p x).1 with|.none=>dD h r (p+1) (cX h s p x).2|v=>(v,(cX h s p x).2)
theorem Dr(e:(cX h s p x).1=.none):dD h (s::r) p x=dD h r (p+1) (cX h s p x).2:=by
 refine(?_:(match(cX h s p x).1 with|.none=>dD h r (p+1) (cX h s p x).2|v=>(v,(cX h s p x).2))=_)
 rw[e]
theorem Ds(e:(cX h s p x).1≠.none):dD h (s::r) p x=cX h s p x:=by
 refine(?_:(match(cX h s p x).1 with|.none=>dD h r (p+1) (cX h s p x).2|v=>(v,(cX h s p x).2))=((cX h s p x).1,(cX h s p x).2))
 revert e;induction(cX h s p x).1 using V.casesOn with|none=>exact λe=>aT rfl e|_=>exact λZ=>rfl
theorem HJ(b):∀(a)(p)(x),((dD h a p x).1=.none->dD h (a++b) p x=dD h b (p+a.length) (dD h a p x).2)/\((dD h a p x).1≠.none->dD h (a++b) p x=dD h a p x)
 |[],p,x=>⟨λZ=>rfl,λe=>aT rfl e⟩
 |s::a,p,x=>by
  obtain⟨B,E⟩:=HJ b a (p+1) (cX h s p x).2;rw[zb];by_cases c:(cX h s p x).1=.none
  ·rw[Dr c,Dr c,jZ,show p+(a.length+1)=p+1+a.length by lia];exact⟨B,E⟩
  ·rw[Ds c,Ds c];exact⟨λe=>aT e c,λZ=>rfl⟩
theorem abB:dD h [s] p x=cX h s p x:=by
 by_cases c:(cX h s p x).1=.none
 ·exact(Dr c).trans (NH c.symm rfl)
 ·rw[Ds c]
theorem Rb{ss:List Sm}(hs:ss[i]?=aa s):((dD h (ss.take i) 0 x).1=.none->dD h (ss.take<|i+1) 0 x=cX h s i (dD h (ss.take i) 0 x).2)/\((dD h (ss.take i) 0 x).1≠.none->dD h (ss.take<|i+1) 0 x=dD h (ss.take i) 0 x):=by have B:=(List.getElem?_eq_some_iff.mp hs).1;rw[pO,hs,zc ..];refine aW (HJ (h:=h) [s] (ss.take i) 0 x) λE J=>⟨λe=>?_,J⟩;rw[E e,abB,gf,fQ ..,mR<|eg B]
theorem ae3(e:(dD h (ss.take i) 0 x).1≠.none):dD h ss 0 x=dD h (ss.take i) 0 x:=by have:=(HJ (h:=h) (ss.drop i) (ss.take i) 0 x).2 e;rwa [pR] at this
structure hZ(ai:Option (Nat×O))(ah:Nat)(ss:List Sm)(ir ic:Nat)(at_:Nat->Nat)(g:J)(cs:Cs):Prop where
 rule:∃rd,g[ir]?=aa (.aA rd)/\look k_cells rd=aa (.ref<|ah+ic)/\look zx rd=aa (.tup<|ss.map Sm.toV)
 cells:g[ic]?=aa (.bW (cs.rule λp=>ah+at_ p))
 each:∀q∈cs,g[at_ q.1]?=aa q.2.obj
 inj:∀q∈cs,∀q'∈cs,at_ q.1=at_ q'.1->q.1=q'.1
 off:∀q∈cs,at_ q.1≠ir/\at_ q.1≠ic
 WD:(cs.map (·.1)).Nodup
 has:∀(i)(s),ss[i]?=aa s->s.iT=ae->∃ce,cs.at i=aa ce
 keep:∀x∈ai,g[x.1]?=aa x.2/\∀q∈cs,at_ q.1≠x.1
theorem EK(h:Ex g g'){i:Nat}(e:g[i]?=aa x):g'[i]?=aa x:=by refine bu h λr B=>rwl B ?_;rw[sI (List.getElem?_eq_some_iff.mp e).1];exact e
theorem hZ.grow{ah:Nat}(x:hZ a ah ss b c at_ g d)(h:Ex g g'):hZ a ah ss b c at_ g' d:=by obtain⟨⟨J,M,O⟩,P,h4,R,S,T,V,B⟩:=x;exact⟨i12 J (EK h M) O,EK h P,λq Y=>EK h<|h4 q Y,R,S,T,V,λx E=>⟨EK h (B x E).1,(B x E).2⟩⟩
theorem JF{a:Cs}(h:a.at p=aa ce):(p,ce)∈a:=by refine ej h λq B E=>rws E ?_;have J:=bO.mp (Nt (p:=λq:Nat×Ce=>q.1==p) B);exact rws J<|CF B
theorem akW{a:Cs}(h:a.at i=aa ce):∃ce,(a.upd p f).at i=aa ce:=by
 unfold Cs.at Cs.upd at*;refine ej h λq B Z=>?_;rw[List.find?_map];have e:((λq:Nat×Ce=>q.1==i)∘λq=>if q.1=p then(q.1,f q.2) else q)=λq:Nat×Ce=>q.1==i:=by funext q;refine(?_:((if q.1=p then(q.1,f q.2) else q).1==i)=_);split<;>rfl
 rw[e,B];exact⟨_,rfl⟩
theorem Rc(a:Cs)(p)(f):(a.upd p f).map (·.1)=a.map (·.1):=by rw[iM];refine GX λq Z=>?_;refine(?_:(if q.1=p then(q.1,f q.2) else q).1=_);split<;>rfl
theorem ae4(len:Nat)(ce:Ce):(ce.next len).cls=ce.cls:=by induction ce using Ce.casesOn<;>rfl
theorem hZ.met{o:Option (Nat×O)}(x:hZ o ah ss w y at_ g d)(h:d.at p=aa ce):hZ o ah ss w y at_ (g.set (at_ p) (ce.next len).obj) (d.upd p<|Ce.next len):=by
 have S:=JF h;obtain⟨⟨A,C,D⟩,F,h4,r,V,t,G,Y⟩:=x;have E:∀q∈d.upd p (Ce.next len),∃B∈d,B.1=q.1/\q.2=if B.1=p then Ce.next len B.2 else B.2:=by intro q M;refine j8 M λB J H=>rws H ?_;refine cu B J ?_ ?_<;>split<;>rfl
 refine⟨i12 A (by rw[Cp (V _ S).1];exact C) D,?_,?_,?_,?_,by rw[Rc ..];exact t,λi s I f=>?_,λx j=>⟨by rw[Cp<|(Y x j).2 _ S];exact(Y x j).1,λq M=>?_⟩⟩
 ·rw[Cp (V _ S).2,F];congr 2;unfold Cs.rule Cs.upd;rw[iM];refine GX λq Z=>?_;rw[Function.comp];split
  ·rw[ae4 ..]
  ·rfl
 ·intro q M;refine cA (E q M) λB J P R=>?_;by_cases c:B.1=p
  ·replace R:=(aC c)▸R;have:B.2=ce:=by
    have T:=t;have e3:∀{l:Cs},(l.map (·.1)).Nodup->∀a∈l,∀b∈l,a.1=b.1->a=b:=by
     intro l;induction l with|nil=>intro _ a k;cases k|cons z l K=>
      intro T a k b L e;rw[iN,mW] at T;rcases sS.mp k with u|WE<;>rcases sS.mp L with v|WG
      ·rw[u,v]
      ·exact aT (by rw[<-u,e];exact zq WG) T.1
      ·exact aT (by rw[<-v,<-e];exact zq WE) T.1
      ·exact K T.2 a WE b WG e
    exact aw XQ<|e3 T B J (p,ce) S c
   rw[<-P,c,R,this];exact my<|h4 _ S
  ·replace R:=(aB c)▸R;rw[Cp λe=>c (r _ J _ S (by rw[P];exact e.symm)),<-P,R];exact h4 _ J
 ·intro q M N m e;refine cA (E q M) λB J P Z=>cA (E N m) λQ n R Z=>?_;rw[<-P,<-R] at e⊢;exact r _ J _ n e
 ·intro q M;refine cA (E q M) λB J P Z=>?_;rw[<-P];exact V _ J
 ·exact bu (G i s I f) λW U=>akW U
 ·refine cA (E q M) λB J P Z=>?_;rw[<-P];exact(Y x j).2 _ J
def Sm.yA:Sm->Nm|.set _ _=>tj|.H _=>tj|.nM _ _ _=>xg|.mN _ _=>xk|.log _ _=>xo|.pE=>wZ|.cnt _ _=>k9|.dZ _ _ _=>k9|.nat _ _ _ _ _=>xq|.lN _=>xc|.mO _=>wY|.exp _=>pZ|.pF=>pZ|.dup=>[]
def Ic:List Nm:=[xg,wY,xk,xo,xc,wZ,tj,xq,pZ,k9]
inductive Out(σ:Sg)(g:J)(p:V×Ab):R V->Prop where|nx{g':J}(hg:Ex g g')(e:p.1=.none){v:V}(hv:v=.none\/v=Vd.cont.toV):Out σ g p (.ok v<|M (σ.bD p.2) g')|rt{g':J}{w x:Nm}(hg:Ex g g')(h:w≠m5)(e:p.1=.tup [.str w,.str x]):Out σ g p (.ok (.tup [.str w,.str x])<|M (σ.bD p.2) g')|ex{g':J}{why:Nm}(hg:Ex g g')(e:p.1=rM why):Out σ g p (.exc why<|M (σ.bD p.2) g')
theorem fN.out{σ:Sg}{g:J}{p:V×Ab}{r:R V}(h:fN σ g p r):Out σ g p r:=by cases h with|nx B=>exact .nx B rfl (.inl rfl)|ct B=>exact .nx B rfl (.inr rfl)|rt B h=>exact .rt B h rfl|ex B=>exact .ex B rfl
theorem amQ{h:Hd}(st:eX h){n:Nat}{a:Ab}(x:dO h n a)(hn:n<900){σ:Sg}(hh:σ.h=h)(hp:σ.P=a):BL σ/\uy σ.h σ.P.aL/\Kl σ:=by subst hh hp;refine cv ⟨⟨st.ok,st.len,st.aG,x.aL,x.lt⟩,λf k e=>D1 st x e,bS x.log (by exact au (by assumption) (by decide)),bS x.rep (by exact au (by assumption) (by decide))⟩ x.My λf s v E J=>?_;have B:=Q0 E ⟨st.ok,st.len,st.aG,x.aL,x.lt⟩ J;exact ae0 st x.aL x.lt x.right B<|Q6 st.ok E J
theorem Sv(n:Nat){σ:Sg}(g:J)(st:eX σ.h){k:Nat}(x:dO σ.h k σ.P)(hk:k<900)(rule place:V):∀{s:Sm},s.Ok->s.Good->s.iT=aq->s≠.dup->Out σ g (dF σ.h σ.P s) (bq (n+12) s.yA [bD,s.toV,rule,place] (M σ g)):=by obtain⟨B,p2,S⟩:=amQ st x hk rfl rfl;intro s E O R T;induction s using Sm.casesOn with|set f e=>exact(aeT n g B p2 S rule place E O.1 O.2.wj λv Y=>Qi st x O.2 Y).out|H b=>exact(aeU n g B rule place b).out|nM f o c=>exact(aeL (n+1) g B rule place E).out|mN f l=>exact(ahM (n+1) g B rule place E).out|log a b=>exact(akK (n+1) g B rule place a b).out|pE=>exact(abx (n+1) g B rule place).out|cnt _ _=>exact ia R|dZ _ _ _=>exact ia R|nat k d ad p i=>exact(aeN n g B rule place E).out|lN r=>exact(akN (n+1) g B rule place r).out|mO v=>exact(abw (n+1) g B rule place v).out|exp o=>exact(akL (n+1) g B rule place o).out|pF=>exact(ahN (n+1) g B rule place).out|dup=>exact aT rfl T
def Ux:List S:=match Pl.body with|[_,.dN _ _ b,_]=>b|_=>[]
theorem JG(n){σ:Sg}{g:J}{s:Sm}(hd:s≠.dup){rule:V}{p:Nat}{x y:Sl}{K:KF}
  (hr:∃r,bq (n+12) s.yA [bD,s.toV,rule,nV p] (M σ g)=r/\match r with
   |.ok v m'=>∀dv,K (.nx [.val bD,.val rule,.val<|nV p,.val s.toV,.val dv,.val v] m')
   |.exc why m'=>∀e,K (.ex why e m')
   |.H=>False):
  kB aR (kF aR bN (λy=>Ic.contains y)<|n+12) (Ux.take 3) [.val bD,.val rule,.val<|nV p,.val s.toV,x,y] (M σ g) K:=by
 refine bo hr λr hr hK=>?_;induction r using R.casesOn with
 |H=>exact hK.elim
 |ok v m'=>
  induction s using Sm.casesOn with
  |dup=>exact aT rfl hd
  |H b=>induction b using Bd.casesOn<;>(rfl';refine aM hr ?_;rfl';exact hK _)
  |exp o=>induction o using aS<;>(rfl';refine aM hr ?_;rfl';exact hK _)
  |_=>
   exact aM hr<|hK _
 |exc why m'=>
  induction s using Sm.casesOn with
  |dup=>exact aT rfl hd
  |H b=>induction b using Bd.casesOn<;>(rfl';refine aM hr ?_;rfl';exact hK _)
  |exp o=>induction o using aS<;>(rfl';refine aM hr ?_;rfl';exact hK _)
  |_=>
   exact aM hr<|hK _
theorem Rd{σ:Sg}{a:Ab}(h:a.ct.isSome=σ.P.ct.isSome):base (σ.bD a)=base σ:=by unfold base M Sg.bD;dsimp only;induction B:a.ct using aO<;>induction E:σ.P.ct using aO<;>rw[B,E] at h<;>first|rfl|cases h
inductive Told(ai:Option (Nat×O))(σ:Sg)(ss:List Sm)(ir ic:Nat)(at_:Nat->Nat)(p:V×(Ab×Cs)):R V->Prop where|nx{g:J}(hg:hZ ai (base σ) ss ir ic at_ g p.2.2)(e:p.1=.none):Told ai σ ss ir ic at_ p (.ok .none<|M (σ.bD p.2.1) g)|rt{g:J}{w x:Nm}(hg:hZ ai (base σ) ss ir ic at_ g p.2.2)(e:p.1=.tup [.str w,.str x]):Told ai σ ss ir ic at_ p (.ok (.tup [.str w,.str x])<|M (σ.bD p.2.1) g)|ex{g:J}{why:Nm}(hg:hZ ai (base σ) ss ir ic at_ g p.2.2)(e:p.1=rM why):Told ai σ ss ir ic at_ p (.exc why<|M (σ.bD p.2.1) g)
theorem Sw(len:Nat)(ce:Ce):ce.says len=.none\/ce.says len=fD:=by
 induction ce using Ce.casesOn with|cnt a b=>exact .inl rfl|dZ o a b=>
  refine(?_:cond (decide (a<=b+len)==o) .none fD=_\/cond (decide (a<=b+len)==o) .none fD=_);induction(decide (a<=b+len)==o) using aS
  ·exact .inr rfl
  ·exact .inl rfl
structure wq(ai:Option (Nat×O))(σ:Sg)(ss:List Sm)(ir ic:Nat)(at_:Nat->Nat)(k:Nat)(y:Ab×Cs)(g:J):Prop where
 ok:dO σ.h k y.1
 ct:y.1.ct.isSome=σ.P.ct.isSome
 held:hZ ai (base σ) ss ir ic at_ g y.2
section
variable{ai:Option (Nat×O)}{σ:Sg}{ss:List Sm}{ir ic:Nat}{at_:Nat->Nat}{k i:Nat}
inductive One(ai:Option (Nat×O))(σ:Sg)(ss:List Sm)(ir ic:Nat)(at_:Nat->Nat)(k:Nat)(f:V×(Ab×Cs)):R V->Prop|nx{g:J}{v:V}(m:wq ai σ ss ir ic at_ k f.2 g)(h:v=.none\/v=Vd.cont.toV)(e:f.1=.none):One ai σ ss ir ic at_ k f (.ok v<|M (σ.bD f.2.1) g)|rt{g:J}{w x:Nm}(m:wq ai σ ss ir ic at_ k f.2 g)(h:w≠m5)(e:f.1=.tup [.str w,.str x]):One ai σ ss ir ic at_ k f (.ok (.tup [.str w,.str x])<|M (σ.bD f.2.1) g)|ex{g:J}{why:Nm}(m:wq ai σ ss ir ic at_ k f.2 g)(e:f.1=rM why):One ai σ ss ir ic at_ k f (.exc why<|M (σ.bD f.2.1) g)
theorem ae5{h:Hd}{s:Sm}{y:Ab×Cs}{ce:Ce}(hm:s.iT=ae)(hc:y.2.at i=aa ce):cX h s i y=(ce.says h.len,y.1,y.2.upd i<|Ce.next h.len):=by unfold cX;rw[hm,hc];rfl
theorem ae6{h:Hd}{s:Sm}{y:Ab×Cs}(hm:s.iT=aq):cX h s i y=((dF h y.1 s).1,(dF h y.1 s).2,y.2):=by unfold cX;rw[hm];rfl
theorem aia(n:Nat)(st:eX σ.h){s:Sm}{y:Ab×Cs}{g:J}(m:wq ai σ ss ir ic at_ k y g)(hk:k<900)(hs:ss[i]?=aa s)(b:s.Ok)(c:s.Good)(hd:s≠.dup):
  One ai σ ss ir ic at_ (k+1) (cX σ.h s i y) (bq (n+12) s.yA [bD,s.toV,.inst d8<|base σ+ir,nV i] (M (σ.bD y.1) g)):=by
 have R:=Rd (σ:=σ) m.ct;induction E:s.iT using aS with
 |true=>
  refine bu (m.held.has i s hs E) λO P=>cA m.held.rule λY d j p=>?_;have S:=ae2 (n+7) (σ:=σ.bD y.1) g ⟨st.ok,st.len,st.aG,m.ok.aL,m.ok.lt⟩ d (by rw[R];exact j) m.held.cells (by rw[R];exact So P) (m.held.each _<|JF P) s.toV;replace S:=(R)▸S;have l:bq (n+12) s.yA [bD,s.toV,.inst d8<|base σ+ir,nV i] (M (σ.bD y.1) g)=.ok (O.says σ.h.len) (M (σ.bD y.1)<|g.set (at_ i) (O.next σ.h.len).obj):=by
   induction s using Sm.casesOn<;>first|exact S|exact dG E
  rw[l,ae5 E P];have md:wq ai σ ss ir ic at_ (k+1) (y.1,y.2.upd i<|Ce.next σ.h.len) (g.set (at_ i) (O.next σ.h.len).obj):=⟨m.ok.mono<|g0 k,m.ct,m.held.met P⟩;refine(Sw σ.h.len O).elim (λh=>.nx (f:=(O.says σ.h.len,y.1,y.2.upd i<|Ce.next σ.h.len)) md (.inl h) h) λh=>?_;rw[h];exact .rt (f:=(fD,y.1,y.2.upd i<|Ce.next σ.h.len)) (w:=gU) (x:=k_) md (λh=>nomatch h) rfl
 |false=>
  rw[ae6 E];have T:=Sv n (σ:=σ.bD y.1) g st m.ok hk (.inst d8<|base σ+ir) (nV i) b c E hd;have md:∀{V},Ex g V->wq ai σ ss ir ic at_ (k+1) ((dF σ.h y.1 s).2,y.2) V:=λB=>⟨Ss st m.ok b c,(Su (h:=σ.h) (a:=y.1) (s:=s)).trans m.ct,m.held.grow B⟩;generalize bq (n+12) s.yA [bD,s.toV,.inst d8<|base σ+ir,nV i] (M (σ.bD y.1) g)=r at T;cases T with
  |nx B e o=>exact .nx (f:=((dF σ.h y.1 s).1,(dF σ.h y.1 s).2,y.2)) (md B) o e
  |rt B h e=>exact .rt (f:=((dF σ.h y.1 s).1,(dF σ.h y.1 s).2,y.2)) (md B) h e
  |ex B e=>exact .ex (f:=((dF σ.h y.1 s).1,(dF σ.h y.1 s).2,y.2)) (md B) e
theorem aib(n:Nat){ai:Option (Nat×O)}{σ:Sg}(g:J)(st:eX σ.h){k:Nat}{d:Cs}(x:dO σ.h k σ.P)(hk:k<800){ss:List Sm}(z:∀s∈ss,s.Ok/\s.Good)(hl:ss.length<=10){ir ic:Nat}{at_:Nat->Nat}
  (hh:hZ ai (base σ) ss ir ic at_ g d):Told ai σ ss ir ic at_ (dD σ.h ss 0 (σ.P,d)) (bq (n+13) zJ [bD,.inst d8<|base σ+ir] (M σ g)):=by
 refine cA hh.rule λU A W C=>?_;have D:=(oI σ g ir).trans A;refine enter Ic (aJ (iS (by kernel_rfl) D C) ?_);rfl';have l:∀m,ei m (.tup<|ss.map Sm.toV)=aa (ss.map Sm.toV):=λm=>aC (by rw[bJ ..];exact au hl (dl rfl));refine fj (l _) (j6 (kg l rfl) (λi (q:(Ab×Cs)×J×Sl×Sl×Sl)=>[.val bD,.val<|.inst d8<|base σ+ir,.val<|nV i,q.2.2.1,q.2.2.2.1,q.2.2.2.2]) (λi q=>M (σ.bD q.1.1) q.2.1) (λi q=>dD σ.h (ss.take i) 0 (σ.P,d)=(.none,q.1)/\wq ai σ ss ir ic at_ (k+i) q.1 q.2.1) ?_ ?_ ((σ.P,d),g,_,_,_) ⟨rfl,⟨x,rfl,hh⟩⟩ rfl rfl)
 ·intro i v q F Y K hK;obtain⟨y,t,a,b,c⟩:=q;refine xt F λs T G=>rwl G (aW (z s<|jW T) λH I=>?_);have L:=(List.getElem?_eq_some_iff.mp T).1;refine aW Y λB md=>?_;dsimp only at B md;have V:=(Rb (h:=σ.h) (x:=(σ.P,d)) T).1 (by rw[B]);rw[B] at V;have stop:(cX σ.h s i y).1≠.none->cX σ.h s i y=dD σ.h ss 0 (σ.P,d):=λN=>(V.symm.trans (ae3 (i:=i+1) (by rw[V];exact N)).symm);refine(?_:kB aR (kF aR bN (λy=>Ic.contains y)<|n+12) Ux [.val bD,.val<|.inst d8<|base σ+ir,.val<|nV i,.val s.toV,b,c] (M (σ.bD y.1) t) _);by_cases E:s=.dup
  ·subst E;rw[<-stop (λh=>nomatch h)];exact .ex (p:=(rM<|C0++Bl,y)) md.held rfl
  ·have o:=aia n st md (cL (wO L k)<|au (mX (eg hk) hl)<|dl rfl) T H I E;generalize f:bq (n+12) s.yA [bD,s.toV,.inst d8<|base σ+ir,nV i] (M (σ.bD y.1) t)=r at o;cases o with
   |@nx R Q S h e=>
    refine iD 3 (JG n E (i12 _ f λu=>?_));have j:K [.val bD,.val<|.inst d8<|base σ+ir,.val<|nV<|i+1,.val s.toV,.val u,.val Q] (M (σ.bD (cX σ.h s i y).2.1) R):=hK ((cX σ.h s i y).2,R,_,_,_) ⟨V.trans<|NH e rfl,S⟩;rcases h with rfl|rfl<;>(rfl';exact j)
   |@rt R w x S h e=>
    refine iD 3 (JG n E (i12 _ f λu=>Vn h ?_));rw[<-stop (λh=>nomatch e.symm.trans h)];exact .rt (p:=cX σ.h s i y) S.held e
   |@ex R why S e=>
    refine iD 3 (JG n E (i12 _ f λZ=>?_));refine(?_:Told ai σ ss ir ic at_ (dD σ.h ss 0 (σ.P,d)) (.exc why<|M (σ.bD (cX σ.h s i y).2.1) R));rw[<-stop (λh=>nomatch e.symm.trans h)];exact .ex (p:=cX σ.h s i y) S.held e
 ·intro q Y;refine aW Y λB md=>?_;rw[bJ,lR] at B;rfl';rw[B];exact .nx (p:=(.none,q.1)) md.held rfl
end
theorem Rf(n:Nat)(g:J):∀ce:Ce,bq (n+1) ce.cls (match ce with|.cnt a b=>[nV a,nV b]|.dZ o a b=>[.bool o,nV a,nV b]) (M σ g)=.ok (.inst ce.cls (M σ g).length) (M σ<|g++[ce.obj])
 |.cnt a b=>by refine fE [] ?_;rfl';rw[jG ..];refine dQ (lb (by kernel_rfl) (g9 σ g _) (by exact(show 0<100000 by decide)) _) ?_;rw[ng ..];refine dQ (lb (by kernel_rfl) (g9 σ g _) (by exact(show 1<100000 by decide)) _) ?_;rw[ng ..];exact rfl
 |.dZ o a b=>by refine fE [] ?_;rfl';rw[jG ..];refine dQ (lb (by kernel_rfl) (g9 σ g _) (by exact(show 0<100000 by decide)) _) ?_;rw[ng ..];refine dQ (lb (by kernel_rfl) (g9 σ g _) (by exact(show 1<100000 by decide)) _) ?_;rw[ng ..];refine dQ (lb (by kernel_rfl) (g9 σ g _) (by exact(show 2<100000 by decide)) _) ?_;rw[ng ..];exact rfl
noncomputable def cellOf:Sm->Option Ce|.cnt a b=>aa (.cnt a b)|.dZ o a b=>aa (.dZ o a b)|_=>ag
noncomputable def bT:List Sm->Nat->Cs|[],_=>[]|s::r,p=>(match cellOf s with|some B=>[(p,B)]|none=>[])++bT r (p+1)
theorem rz:bT (s::r) p=(match cellOf s with|some ce=>[(p,ce)]|none=>[])++bT r (p+1):=rfl
theorem Dt(b):∀(a)(p),bT (a++b) p=bT a p++bT b (p+a.length)|[],p=>rfl|s::a,p=>by rw[zb,rz ..,rz ..,Dt b a<|p+1,iO ..,jZ,show p+(a.length+1)=p+1+a.length by lia]
theorem HK{ss:List Sm}(h:ss[i]?=aa s):bT (ss.take<|i+1) 0=bT (ss.take i) 0++(match cellOf s with|some ce=>[(i,ce)]|none=>[]):=by rw[pO,h,zc ..,Dt ..,gf,fQ ..,mR<|eg (List.getElem?_eq_some_iff.mp h).1,rz ..,show bT [] (0+i+1)=[] from rfl,gC ..]
theorem aic(n:Nat)(g:J)(s:Sm):bq (n+2) zD [s.toV] (M σ g)=match cellOf s with
  |some B=>.ok (.inst B.cls (M σ g).length)<|M σ<|g++[B.obj]
  |none=>.ok .none (M σ g):=by
 refine fE [th,rF] ?_;induction s using Sm.casesOn with
 |cnt a b=>
  exact aM (Rf n g<|.cnt a b) rfl
 |dZ o a b=>
  exact aM (Rf n g<|.dZ o a b) rfl
 |H b=>induction b using Bd.casesOn<;>(exact rfl)
 |_=>
  exact rfl
def Sm.tag:Sm->Nm|.set _ _=>gW|.H _=>gW|.nM _ _ _=>xw|.mN _ _=>xH|.log _ _=>gV|.pE=>xm|.cnt _ _=>lh|.dZ _ _ _=>lY|.nat _ _ _ _ _=>oG|.lN _=>ry|.mO _=>tg|.exp _=>m7|.pF=>xI|.dup=>Bl
theorem JH(m:J)(s:Sm):ky m s.toV (.int 0)=aa (.str s.tag):=by induction s using Sm.casesOn with|H b=>induction b using Bd.casesOn<;>rfl|_=>rfl
theorem Ji(s:Sm):(s.tag=lh\/s.tag=lY)<->s.iT=ae:=by induction s using Sm.casesOn<;>first|exact⟨λZ=>rfl,λZ=>.inl rfl⟩|exact⟨λZ=>rfl,λZ=>.inr rfl⟩|exact⟨λh=>(by rcases h with h|h<;>cases h),λh=>(by exact dG h)⟩
theorem IW(s):(cellOf s).isSome=s.iT:=by induction s using Sm.casesOn<;>rfl
theorem aid(s:Sm):s.tag≠QS:=by induction s using Sm.casesOn<;>(intro h;cases h)
theorem gE(h:l[i]?=aa v)(hi:i<1000000):ky m (.tup l) (nV i)=aa v:=tK h hi
theorem IX:∀{l},(∀q∈l,q.1≠(p:Int))->mj p v l=l++[((p:Int),v)]|[],_=>rfl|q::l,h=>by rw[JM ..,aB λe=>h q dE e.symm,IX λB E=>h B<|dT _ E];rfl
theorem tn:∀{ss}{p},∀q∈bT ss p,p<=q.1/\q.1<p+ss.length
 |[],p,q,h=>by cases h
 |s::r,p,q,h=>by
  rw[rz] at h;rw[jZ];refine bZ (List.mem_append.mp h) (λh=>?_) λh=>?_
  ·induction B:cellOf s using aO<;>replace h:=(B)▸h
   ·cases h
   ·obtain rfl:=GL.mp h;exact⟨dR _,by dsimp only;lia⟩
  ·have:=tn q h;lia
def cellAt(k:Nat)(ss:List Sm)(p:Nat):Nat:=k+(bT (ss.take p) 0).length
theorem ae7(n:Nat){σ:Sg}(g:J)(hl:ss.length<=10):bq (n+3) Dz [.tup<|ss.map Sm.toV] (M σ g)=.ok (.ref (M σ g).length) (M σ (g++[.bW<|(bT ss 0).rule<|cellAt ((M σ g).length+1) ss]++(bT ss 0).map (·.2.obj))):=by
 refine fE [zD] ?_;rfl';have S:=qA (n:=ss.length) (by exact bS (by assumption) (by decide));rw[jG ..];refine aJ (u:=nV ss.length) ?_ ?_
 ·refine(?_:(if (ss.map Sm.toV).length<=1000000 then aa (nV (ss.map Sm.toV).length) else ag)=_);rw[aC (by rw[bJ ..];exact au (by assumption) (by decide)),bJ ..]
 refine fj (S _) (j6 (kg S rfl) (λi (q:Sl×Sl×Sl)=>[.val<|.tup<|ss.map Sm.toV,.val<|.ref (M σ g).length,q.1,q.2.1,q.2.2]) (λi Z=>M σ (g++[.bW<|(bT (ss.take i) 0).rule<|cellAt ((M σ g).length+1) ss]++(bT (ss.take i) 0).map (·.2.obj))) (λZ Z=>True) ?_ ?_ (_,_,_) trivial rfl<|aw (M σ) (gC _).symm)
 ·intro i v Z V Z K hK;refine m8 V λY O=>rwl O ?_;have P:=cT Y;generalize ss[i]=s at P;have R:(ss.map Sm.toV)[i]?=aa s.toV:=by rw[gB,P];rfl
  have B:=HK P;have hlen:(bT (ss.take i) 0).length<=i:=by
   have:∀(l)(p),(bT l p).length<=l.length:=by
    intro l;induction l with
    |nil=>intro p;exact dR _
    |cons z l a=>intro p;rw[rz ..,d6,jZ];have:=a<|p+1;induction cellOf z using aO<;>simp only[jZ,G9]<;>lia
   exact au (this _ 0)<|apH _ _
  have E:=aic n (σ:=σ) (g++[.bW<|(bT (ss.take i) 0).rule<|cellAt ((M σ g).length+1) ss]++(bT (ss.take i) 0).map (·.2.obj)) s;induction T:cellOf s using aO with
  |none=>
   rw[T] at E B;rw[B,gC] at hK;exact aJ (gE R (by lia)) (aM E (aJ (gE R (by lia))<|aJ (JH _ s)<|KV (aid s)<|hK (_,_,_) trivial))
  |some f=>
   rw[T] at E B;rw[B] at hK;have b:(M σ (g++[.bW<|(bT (ss.take i) 0).rule<|cellAt ((M σ g).length+1) ss]++(bT (ss.take i) 0).map (·.2.obj))).length=cellAt ((M σ g).length+1) ss i:=by
    rw[vj ..,vj ..,d6,d6,bJ ..];unfold cellAt;refine(?_:_+(_+1+_)=_);lia
   refine aJ (gE R (by lia))<|aM E ?_;rfl';rw[iO (bs:=MV _ _) ..];refine dQ (Ef (mf σ g _ _) ?_ _ _) ?_
   ·refine(?_:((bT (ss.take i) 0).map _).length<_);rw[bJ ..];lia
   rw[tV ..];refine Ms ?_<|hK (_,_,_) trivial;rw[IX,<-iO ..,b]
   ·unfold Cs.rule;rw[jo,jo,iO ..];rfl
   ·intro q c;refine j8 c λd e O=>rws O ?_;have:=(tn d e).2;replace this:=(gf)▸this;lia
 ·intro q Z;rw[bJ ..,iL,lR];exact rfl
theorem zY:∀(ss)(p),((bT ss p).map (·.1)).Nodup|[],_=>Nr|s::r,p=>by rw[rz ..,jo];induction cellOf s using aO with|none=>exact zY r (p+1)|some E=>refine mW.mpr ⟨λh=>j8 h λq B e=>?_,zY r<|p+1⟩;have:=(tn q B).1;lia
theorem Ie(h:q∈bT ss 0):(bT ss 0)[(bT (ss.take q.1) 0).length]?=aa q:=by
 have B:=(tn q h).2;replace B:=(fQ ..)▸B;have e:bT ss 0=bT (ss.take q.1) 0++bT (ss.drop q.1) q.1:=by have:=Dt (ss.drop q.1) (ss.take q.1) 0;rwa [pR,gf,fQ,mR<|eg B] at this
 have E:q∈bT (ss.drop q.1) q.1:=by
  replace h:=(e)▸h;refine bZ (List.mem_append.mp h) (λh=>?_) λh=>?_
  ·have:=(tn q h).2;replace this:=(gf)▸this;lia
  ·exact h
 rw[e,nS<|dR _,k7 ..];rw[CJ B,rz] at E⊢;refine bZ (List.mem_append.mp E) (λh=>?_) λh=>?_
 ·induction J:cellOf ss[q.1] using aO<;>replace h:=(J)▸h
  ·cases h
  ·rw[GL.mp h];rfl
 ·have:=(tn q h).1;lia
theorem Rg(h:ss[i]?=aa s)(hm:s.iT=ae):∃ce,Cs.at (bT ss 0) i=aa ce:=by
 refine Bo ((IW s).trans hm) λce E=>?_;have B:=HK h;replace B:=(E)▸B;have hm:(i,ce)∈bT ss 0:=by have:=Dt (ss.drop<|i+1) (ss.take<|i+1) 0;replace this:=(pR ..)▸this;rw[this,B];exact MC _<|MD _ dE
 unfold Cs.at;induction J:(bT ss 0).find? λq=>q.1==i using aO with|none=>exact aT (List.find?_eq_none.mp J _ hm) (by simp)|some q=>exact⟨_,rfl⟩
def Km(turn:Nat)(ss:List Sm)(c s:Nat):Lb:=[(IF,nV turn),(zx,.tup<|ss.map Sm.toV),(H6,.str k_),(k_cells,.ref c),(Jw,.none),(tI,.ref s)]
theorem aie(n)(g)(hl:ss.length<=10)(turn):∃g',Ex g g'/\bq (n+4) d8 [nV turn,.tup<|ss.map Sm.toV] (M σ g)=.ok (.inst d8<|base σ+g.length) (M σ g')/\hZ ag (base σ) ss g.length (g.length+1) (cellAt (g.length+2) ss) g' (bT ss 0):=by
 let J:=(bT ss 0).rule λp=>base σ+cellAt (g.length+2) ss p;let P:=(bT ss 0).map (·.2.obj);have V:∀d,(bT ss 0).rule (cellAt ((M σ<|g++[.aA d]).length+1) ss)=J:=λd=>by congr 1;funext p;rw[vj ..,d6];unfold cellAt;refine(?_:base σ+(g.length+1)+1+_=_);lia
 have Y:∀d,(M σ<|g++[.aA d]).length=base σ+(g.length+1):=λd=>by rw[vj ..,d6];rfl
 let S:=base σ+(g.length+1+1+P.length);refine cu (g++[.aA<|Km turn ss (base σ+(g.length+1)) S]++([.bW J]++P++[.aA []])) (.trans (.app _ _)<|.app _ _) ?_ ?_
 ·rw[<-vj ..];refine fE [Dz] ?_;rfl';rw[jG ..];refine dQ (lb (by kernel_rfl) (g9 σ g _) (by exact(show 0<100000 by decide)) _) ?_;rw[ng ..];refine dQ (lb (by kernel_rfl) (g9 σ g _) (by exact(show 1<100000 by decide)) _) ?_;rw[ng ..];refine dQ (lb (by kernel_rfl) (g9 σ g _) (by exact(show 2<100000 by decide)) _) ?_;rw[ng ..];refine aM (ae7 n _ hl) ?_;rw[V ..,Y ..,iO (as:=g++_) ..];refine dQ (lb (by kernel_rfl) (mf σ g _ _) (by exact(show 3<100000 by decide)) _) ?_;rw[tV ..];refine dQ (lb (by kernel_rfl) (mf σ g _ _) (by exact(show 4<100000 by decide)) _) ?_;rw[tV ..];rfl';rw[jG ..,iO (g++[_]) ..];refine dQ (lb (by kernel_rfl) (mf σ g _ _) (by exact(show 5<100000 by decide)) _) ?_;rw[tV ..,show(M σ (g++[O.aA _]++([O.bW J]++MV (λx=>x.2.obj) (bT ss 0)))).length=S by rw[vj ..];simp only[d6,jZ,G9];lia]
  rfl
 ·have T:(g++[O.aA<|Km turn ss (base σ+(g.length+1)) S]).length=g.length+1:=by rw[d6];rfl
  refine⟨cu (Km turn ss (base σ+(g.length+1)) S) ?_ rfl rfl,?_,λq E=>?_,λq E a b e=>?_,λq E=>?_,zY ss 0,λi s h c=>Rg h c,λx f=>(by cases f)⟩
  ·rw[sI (by lia),nS<|dR _,k7 ..];rfl
  ·rw[nS (by lia),T,k7 ..];rfl
  ·rw[nS (by unfold cellAt;lia),T,show cellAt (g.length+2) ss q.1-(g.length+1)=(bT (ss.take q.1) 0).length+1 by unfold cellAt;lia];have B:=Ie E;have R:=(List.getElem?_eq_some_iff.mp B).1;rw[iO ..];refine(?_:(P++[O.aA []])[(bT (ss.take q.1) 0).length]?=_);rw[sI (by refine(?_:_<((bT ss 0).map _).length);rw[bJ ..];exact R),gB,B];rfl
  ·have B:=Ie E;have R:=Ie b;have:(bT (ss.take q.1) 0).length=(bT (ss.take a.1) 0).length:=by unfold cellAt at e;lia
   rw[this,R] at B
   (have j:=bf B;subst j);rfl
  ·unfold cellAt;lia
noncomputable def Sg.met(σ:Sg):Sg:={σ with mL:=σ.L.cB,mM:=σ.L.pri}
theorem acV(n){m:J}{ce:Ce}{j:Nat}(h:m[j]?=aa ce.obj):bq (n+1) zr [.inst ce.cls j] m=.ok ce.toV m:=by
 refine fE [] ?_;induction ce using Ce.casesOn with
 |cnt a b=>
  exact aJ (xS (by kernel_rfl) h) (aJ (iS (by kernel_rfl) h rfl) (aJ (iS (by kernel_rfl) h rfl) rfl))
 |dZ o a b=>
  exact aJ (xS (by kernel_rfl) h) (aJ (xS (by kernel_rfl) h) (aJ (iS (by kernel_rfl) h rfl) (aJ (iS (by kernel_rfl) h rfl) (aJ (iS (by kernel_rfl) h rfl) rfl))))
theorem Kn{m:J}{a b:V}(h:vN m a b=aa ae):fF m .ne a b=aa (.bool aq):=by refine(?_:(vN m a b).map (λx=>V.bool !x)=_);rw[h];rfl
theorem TS{m:J}{i j:Nat}{l:mV}(h1:m[i]?=aa (.lst l))(h2:m[j]?=aa (.lst l))(hp:∀v∈l,pl 60 v=ae):vN m (.ref i) (.ref j)=aa ae:=by unfold vN;rw[jd h1,jd h2];exact JE λv B=>Uw<|hp v B
theorem aif{m:J}{r:Nat}{l:z0}(h:m[r]?=aa (.bar l))(hl:l.length<=1000000):lq m (.ref r)=aa (.bb l):=by unfold lq;rw[jd h];exact aC hl
theorem Sx{m:J}{r:Nat}{l:z0}(h:m[r]?=aa (.lst<|bH l))(hl:l.length<=1000000)(hb:∀b∈l,b<256):lq m (.ref r)=aa (.bb l):=by unfold lq;rw[jd h];refine(?_:(if (bH l).length<=1000000 then(oA<|bH l).map V.bb else ag)=_);rw[aC (by rwa [eV ..]),IQ hb];rfl
theorem at_of:∀{a:Cs}{p}{ce},(a.map (·.1)).Nodup->(p,ce)∈a->a.at p=aa ce
 |[],_,_,_,h=>by cases h
 |q::a,p,ce,B,h=>by
  rw[iN,mW] at B;unfold Cs.at;rw[Cw];refine bZ (sS.mp h) (λh=>?_) λh=>?_
  ·rw[<-h,show(p==p)=ae from beq_self_eq_true p];rfl
  ·rw[show(q.1==p)=aq from beq_eq_false_iff_ne.mpr λe=>B.1 (by rw[e];exact zq (f:=(·.1)) h)];exact at_of B.2 h
theorem ae8(n:Nat){τ:Sg}{g:J}(a:τ.L=τ.P){rv:V}{K:KF}(hK:K (.nx [.val bD,.val<|.ref 7,.val<|.ref 1,.val rv,.val<|.ref 3,.un] (M τ g))):
  kB aR (kF aR bN (λy=>[zr].contains y) n) ((Hl.body.drop 4).take 1) [.val bD,.val<|.ref 7,.val<|.ref 1,.val rv,.val<|.ref 3,.un] (M τ g) K:=by
 (induction τ using Sg.casesOn with|_ Y at_ sum b c h L S d);obtain⟨aL,T,B,st,R,E,O⟩:=S
 have a:L=⟨aL,T,B,st,R,E,O⟩:=a;subst a;induction R using aO with
 |none=>
  exact hK
 |some k=>
  exact iK_f (λh=>h rfl) hK
theorem ae9(n:Nat){H:Option (Nat×O)}{σ:Sg}{g:J}(hl:σ.h.len<=100){k:Nat}(x:dO σ.h k σ.P)(he:σ.L=σ.P){c:Cs}{ss:List Sm}{d t jc:Nat}{at_:Nat->Nat}(hh:hZ H (base σ) ss d t at_ g c)
  (hk:σ.kc=base σ+jc)(hc:g[jc]?=aa (.bW c.cf))(hr:rQ (c.map λq=>(q.1:Int))=ae)(u:c.length<=8):
  bq (n+3) zu [bD,.ref 7,.ref 1,.inst d8<|base σ+d] (M σ g)=.ok (.bool ae) (M σ.met g):=by
 refine tJ [zr] (f:=Hl) (K:=λr=>r=_) (by kernel_rfl) [.val bD,.val<|.ref 7,.val<|.ref 1,.val<|.inst d8<|base σ+d,.un,.un] rfl rfl (nB 2 [.val bD,.val<|.ref 7,.val<|.ref 1,.val<|.inst d8<|base σ+d,.val<|.ref 3,.un] (M σ.met g) (λS B=>?_) ?_)
 ·rfl';exact B
 have I:base σ.met=base σ:=rfl;have E:σ.met.L=σ.met.P:=he;have hk:σ.met.kc=base σ.met+jc:=hk;have x:dO σ.met.h k σ.met.P:=x;have hl:σ.met.h.len<=100:=hl;have T:σ.met.mL=σ.met.P.cB:=aw Ab.cB he;have N:σ.met.mM=σ.met.P.pri:=aw Ab.pri he;rw[<-I] at hh⊢;generalize σ.met=τ at*;refine cA hh.rule λrd Q w r3=>?_;have z:=(oI τ g d).trans Q;have gc:=(oI τ g t).trans hh.cells;have Y:(M τ g)[τ.kc]?=aa (.bW c.cf):=by rw[hk];exact(oI τ g jc).trans hc
 have ol:=x.aL;refine nB 1 [.val bD,.val<|.ref 7,.val<|.ref 1,.val<|.inst d8<|base τ+d,.val<|.ref 3,.un] (M τ g) (λS B=>?_) ?_
 ·rfl';refine aJ (aif (l:=τ.P.aL) rfl (by lia)) ?_;refine aJ (Sx (r:=2) (l:=τ.P.aL) (by rw[<-E];rfl) (by lia) x.lt) ?_;rfl';dsimp only;rw[beq_self_eq_true ..];rfl';dsimp only;rw[T,N,beq_self_eq_true ..,beq_self_eq_true ..];rfl';exact B
 refine nB 1 [.val bD,.val<|.ref 7,.val<|.ref 1,.val<|.inst d8<|base τ+d,.val<|.ref 3,.un] (M τ g) (λS B=>?_) ?_
 ·rfl';refine aJ (Kn (TS (l:=τ.P.log) rfl (by rw[<-E];rfl) x.K1)) ?_;refine aJ (Kn (TS (l:=τ.P.rep) rfl (by rw[<-E];rfl) x.K2)) ?_;exact iK_f (λh=>h (by rw[E])) B
 refine nB 1 [.val bD,.val<|.ref 7,.val<|.ref 1,.val<|.inst d8<|base τ+d,.val<|.ref 3,.un] (M τ g) (λS B=>?_) ?_
 ·exact ae8 (n+2) E B
 have A:∀{j:Nat}{l:List (Int×V)},(M τ g)[j]?=aa (.bW l)->rQ (l.map (·.1))=ae->l.length<=8->DM (M τ g) (.ref j)=aa (.lst (l.map λp=>.int p.1)):=by
  intro j l U W X;exact(aw (λo=>(Bp o).bind λl=>if rQ (l.1.map (·.1))/\l.1.length<=8 then aa (V.lst (l.1.map λp=>.int p.1)) else ag) U).trans (aC ⟨W,X⟩)
 have k1:(c.rule λp=>base τ+at_ p).map (·.1)=c.map λq=>(q.1:Int):=by unfold Cs.rule;rw[iM];rfl
 have C:c.cf.map (·.1)=c.map λq=>(q.1:Int):=by unfold Cs.cf;rw[iM];rfl
 refine nB 1 [.val bD,.val<|.ref 7,.val<|.ref 1,.val<|.inst d8<|base τ+d,.val<|.ref 3,.un] (M τ g) (λS B=>?_) ?_
 ·rfl';refine aJ (iS (by kernel_rfl) z w) ?_;refine aJ (A gc (by rw[k1];exact hr) (by unfold Cs.rule;rw[bJ ..];exact u)) ?_;refine aJ (A Y (by rw[C];exact hr) (by unfold Cs.cf;rw[bJ ..];exact u)) ?_;refine aJ (Kn ?_) ?_
  ·refine(?_:eqZ (ib 60) _ _=_);rw[show((c.rule λp=>base τ+at_ p).map λp=>V.int p.1)=c.map λq=>nV q.1 by unfold Cs.rule;rw[iM];rfl,show(c.cf.map λp=>V.int p.1)=c.map λq=>nV q.1 by unfold Cs.cf;rw[iM];rfl];refine JE λv m=>Uw (j8 m λq Z R=>rws R ?_);rfl
  exact B
 have D:ei (M τ g) (.ref τ.kc)=aa (c.cf.map λp=>.int p.1):=by
  refine(aw Ei Y).trans (aC ?_);rw[C];have:=hh.WD;rw[List.nodup_iff_pairwise_ne] at this⊢;rw[List.pairwise_map] at this⊢;exact this.imp λh e=>h<|i8 e
 refine fj D (II (λi y=>[.val bD,.val<|.ref 7,.val<|.ref 1,.val<|.inst d8<|base τ+d,.val<|.ref 3,y]) (λZ Z=>M τ g) (λZ Z=>(aC rfl).trans D) (λZ Z=>True) ?_ ?_ _ trivial rfl rfl)
 ·intro i v Z m Z K hK;refine xt m λq' fZ R=>rwl R ?_;have s:=jW fZ;refine j8 s λq F R=>?_;subst R
  (induction q using Prod.casesOn with|_ p ce)
  have G:=at_of hh.WD F;have vp:=(oI τ g<|at_ p).trans<|hh.each _ F;refine aJ (iS (by kernel_rfl) z w)<|aJ (AH gc<|So G)<|aM (acV _ vp)<|aJ (AH Y<|TR G) ?_;induction ce using Ce.casesOn with
  |cnt a b=>
   rfl';dsimp only;rw[show((a:Int)==(a:Int))=ae from beq_self_eq_true _,show((b:Int)==(b:Int))=ae from beq_self_eq_true _];exact hK _ trivial
  |dZ o a b=>
   rfl';dsimp only;rw[show(o==o)=ae from beq_self_eq_true _,show((a:Int)==(a:Int))=ae from beq_self_eq_true _,show((b:Int)==(b:Int))=ae from beq_self_eq_true _];exact hK _ trivial
 ·exact λZ Z=>rfl
noncomputable def Sg.dr(σ:Sg)(k:Nat):Sg:={σ with at_:=σ.at_+k}
noncomputable def jU(σ:Sg)(k:Nat):Prop:=tT σ.xs (σ.at_+k) σ.sum
theorem jU.dr(h:jU σ k)(a:j<=k):jU (σ.dr j) (k-j):=by unfold jU Sg.dr;dsimp only;rw[show σ.at_+j+(k-j)=σ.at_+k by lia];exact h
theorem ls(n:Nat){σ:Sg}(hp:jU σ k)(g:J){G:Prop}(kk:∀r,jT r->bq (n+1) c4 [.ref 0] (M σ g)=.ok (.int r) (M (σ.dr 1) g)->G):G:=
 bo (Az (k:=σ.at_) n ⟨hp.1,hp.2,by have:=hp.3;lia,hp.4⟩ (M σ g).tail) kk
theorem cW(r:Int){k:Nat}(hk:0<k){G:Prop}(kk:∀j:Nat,bX r (k:Int)=(j:Int)->j<k->G):G:=by have B:=Int.fmod_nonneg_of_pos r (show(0:Int)<k by lia);have E:=Int.fmod_lt_of_pos r (show(0:Int)<k by lia);exact kk ((bX r k).toNat) (by lia) (by lia)
theorem JI(hb:0<b):iz .mod (.int a) (nV b)=aa (.int<|bX a b):=by refine(?_:(if (b:Int)≠0 then aa (bX a b) else ag).map V.int=_);rw[aC (by lia)];rfl
def fJ(i:Nat):Fd:=.o<|pB.getD i ⟨.ip,4,2,Au,cz⟩
theorem amR(i):(fJ i).Ok:=by refine amI _ ?_;rw[fy];induction h:pB[i]? using aO with|none=>exact dE|some f=>exact jW h
def i6(a:Bool)(p:Pr):List Fd:=((cond a [1,2,3,0,4] [4,5,6,1])++(match p with|.dY=>[7,8,9,11,12,13,10]|_=>[14,15,15,8])).map fJ++[.cB,.kK,.pri]
def fv(a:Bool)(p:Pr):mV:=(i6 a p).map λf=>.str f.name
theorem afa(n)(a)(p)(m):bq (n+1) Df [.bool a,.int p.num] m=.ok (.lst<|fv a p) m:=by refine fE [] ?_;induction a using aS<;>induction p using Pr.casesOn<;>(rfl';rfl)
theorem JJ:∀f∈i6 a p,f.Ok/\f.Set:=by
 intro f hf;rcases List.mem_append.mp hf with hf|hf
 ·exact j8 hf λi Z B=>rws B ⟨amR i,trivial⟩
 ·simp only[sS,CA,or_false] at hf;rcases hf with rfl|rfl|rfl<;>exact⟨trivial,trivial⟩
theorem Qj{f:Fd}(h1:f.Ok)(h2:f.Set):∃a:Nat,look f.name AD=aa (.tup [nV a,nV f.dm]):=by induction f using Fd.casesOn with|o f=>exact⟨_,h1.place⟩|cB=>exact⟨0,by kernel_rfl⟩|pri=>exact⟨0,by kernel_rfl⟩|kK=>exact⟨0,by kernel_rfl⟩|_=>exact h2.elim
theorem A1(h:l[i]?=aa v)(hi:i<1000000):ky m (.lst l) (nV i)=aa v:=tK h hi
noncomputable def Gd(v:V):Prop:=∃s:Sm,s.Ok/\s.Good/\v=s.toV
theorem Uy:jT 210306068529402873165736369884012333109:=tB (a:=210306068529402873165736369884012333109)<|dl rfl
theorem Ko(w):256^w=2^(8*w):=by rw[CS ..]
theorem pk{α β:Type}{g:α->β}{G:Prop}(L:List α)(h:i<L.length)(k:∀o,o∈L->(L.map g)[i]?=aa (g o)->G):G:=k L[i] (nW h) (by rw[gB,cT h];rfl)
theorem xT{α:Type}{p:α->Bool}{L:List α}(h:ae=L.all p){a:α}(m:a∈L):p a=ae:=List.all_eq_true.mp h.symm a m
theorem two(h:b<2):b=0\/b=1:=Nat.le_one_iff_eq_zero_or_eq_one.mp<|lP h
theorem acW(n:Nat){σ:Sg}{k:Nat}(hp:jU σ (k+3))(g:J)(d:Bool)(p:Pr):∃v,Gd v/\bq (n+2) C6 [.ref 0,.lst<|fv d p] (M σ g)=.ok v (M (σ.dr 3) g):=by
 have hlen:(fv d p).length=(i6 d p).length:=bJ _;have P:0<(i6 d p).length:=by induction d using aS<;>induction p using Pr.casesOn<;>exact dc rfl
 have I:(i6 d p).length<=20:=by induction d using aS<;>induction p using Pr.casesOn<;>exact dc rfl
 refine gl λL m=>?_;refine ls n hp g λN f1 Q=>?_;refine ls n (hp.dr (j:=1) (by lia)) g λx f2 U=>ls n (hp.dr (j:=2) (by lia)) g λE W X=>cW N P λi hi i5=>cW x (k:=5) (dt rfl) λB hw yQ=>?_;refine cW E P λj hj qS=>?_;refine m ?_;have A:∀i,i<(i6 d p).length->∃f:Fd,f.Ok/\f.Set/\(fv d p)[i]?=aa (.str f.name):=λi h=>by refine cu ((i6 d p)[i]'h) ((JJ _<|nW _).1) ((JJ _<|nW _).2) ?_;unfold fv;rw[gB,cT h];rfl
 refine gl λL m=>?_;refine cA (A i i5) λf R q hf=>?_;refine cA (A j qS) λS C D s=>bu (Qj R q) λa ha=>bu (Qj C D) λa' Mn=>?_;have apU:=TC R;refine cW (E*210306068529402873165736369884012333109) (k:=256^f.dm) (nX<|dl rfl) λnum hn T=>?_;refine m ?_;replace T:=(Ko ..)▸T;obtain⟨o,F,os,G,O⟩:∃o:Fd,o.Ok/\o.Set/\o.dm=f.dm/\(if S.dm=f.dm then S.name else f.name)=o.name:=by
  by_cases c:S.dm=f.dm
  ·exact vK S C D c<|aC c
  ·exact vK f R q rfl<|aB c
 have hL:ma (M (σ.dr 3) g) (.lst<|fv d p)=aa (nV (i6 d p).length):=by rw[AA (by lia) ..,hlen]
 suffices h:∃v,Gd v/\kB aR (kF aR bN (λy=>[c4,j0].contains y)<|n+1) (C9.body.drop 5) [.val<|.ref 0,.val<|.lst<|fv d p,.val<|.str f.name,.val<|nV f.dm,.val<|nV B,.val<|.int E,.val<|nV num,.val<|.str o.name] (M (σ.dr 3) g) (qy λr=>r=.ok v (M (σ.dr 3) g)) by
  refine bo h λv hv h=>i12 v hv (tJ [c4,j0] (f:=C9) (K:=λr=>r=_) (by kernel_rfl) [.val<|.ref 0,.val<|.lst<|fv d p,.un,.un,.un,.un,.un,.un] rfl rfl (nB 5 [.val<|.ref 0,.val<|.lst<|fv d p,.val<|.str f.name,.val<|nV f.dm,.val<|nV B,.val<|.int E,.val<|nV num,.val<|.str o.name] (M (σ.dr 3) g) (λK0 H=>?_) ?_))
  ·rfl';refine aM Q (aJ (AA (l:=fv d p) (by lia) _) ?_);rw[hlen];refine aJ (JI P) ?_;rw[hi];refine aJ (A1 hf (by lia))<|aM (oh _ _)<|aJ ha<|aM U ?_;rfl';rw[show bX x 5=(B:Int) from hw];refine aM X (aJ (AX W Uy) (aJ (Je (a:=256) (e:=f.dm) rfl (by exact au (by assumption) (by decide))<|dl rfl)<|aJ (JI<|nX<|dl rfl) ?_));rw[hn];refine aJ (AA (l:=fv d p) (by lia) _) ?_;rw[hlen];refine aJ (JI P) ?_;rw[hj];refine aJ (A1 s (by lia)) (aM (oh _ _) (aJ Mn (cG (λc=>?_) λc=>?_)))
   ·replace O:=(aB λh=>c<|aw nY h)▸O;exact wi (by rw[<-O]) rfl H
   ·replace O:=(aC<|i8<|apF.mp c)▸O;exact wi (by rw[<-O]) rfl H
  ·exact h
 have Y:∀e:Sr,e.Ok->e.In f.dm->Gd (.tup [.str gW,.str f.name,e.toV]):=λe h1 h2=>cu (.set f e) ⟨R,h1⟩ ⟨q,h2⟩ rfl;by_cases w0:B=0
 ·refine rwl w0 (cW E (k:=2) (by decide) λb t u=>?_);have vC:0<2^(8*f.dm):=nX (by decide);have fin:∀z:Nat,z<2^(8*f.dm)->[V.int 0,.int ((256^f.dm:Nat)-1:Int)][b]?=aa (nV z)->∃v,Gd v/\kB aR (kF aR bN (λy=>[c4,j0].contains y)<|n+1) (C9.body.drop 5) [.val<|.ref 0,.val<|.lst<|fv d p,.val<|.str f.name,.val<|nV f.dm,.val<|nV 0,.val<|.int E,.val<|nV num,.val<|.str o.name] (M (σ.dr 3) g) (qy λr=>r=.ok v (M (σ.dr 3) g)):=by intro z w Mv;refine i12 _ (Y (.num z) trivial w) ?_;rfl';refine aJ (Je (a:=256) (e:=f.dm) rfl (by exact au (by assumption) (by decide)) (by decide)) ?_;rfl';rw[show bX E 2=(b:Int) from t];exact aJ (gE Mv (by exact au (by assumption) (by decide))) rfl
  refine bZ (two u) (λe=>?_) λe=>?_
  ·exact fin 0 vC (by rw[e];rfl)
  ·exact fin (256^f.dm-1) (by rw[Ko ..];lia) (by rw[e];refine(?_:aa (V.int _)=aa (V.int _));rw[show((256^f.dm:Nat)-1:Int)=((256^f.dm-1:Nat):Int) by rw[Ko ..];lia])
 by_cases w1:B=1
 ·refine rwl w1<|i12 _ (Y (.num num) trivial T) ?_;rfl';rfl
 by_cases w2:B=2
 ·refine rwl w2<|i12 _ (Y (.fld o) F G) ?_;rfl';rfl
 refine cW E (k:=3) (dl rfl) λb t u=>pk (g:=λz:Wo=>V.str z.word) [.mask,.or,.xor] u λz Z w=>i12 _ (Y (.kL z o num) F ⟨G,T⟩) (iK_f (by lia) (iK_f (by lia) (iK_f (by lia) ?_)));rfl';rw[show bX E 3=(b:Int) from t];exact aJ (gE w (by exact au (by assumption) (by decide))) rfl
theorem aih(h:a.length+b.length<=1000):iz .add (.lst a) (.lst b)=aa (.lst<|a++b):=aC ⟨rfl,h⟩
theorem jM.dr(h:jM σ)(k):jM (σ.dr k):=⟨h.hd,h.len,h.aG,h.aL,h.lt⟩
theorem near_is(n:Nat)(hp:jU σ (k+1))(ok:jM σ)(g)(b)(p):∃(f:Fd)(z:Nat),f.Ok/\bq (n+4) uJ [.ref 0,.ref 7,.lst<|fv b p] (M σ g)=.ok (.tup [f.toV,nV z]) (M (σ.dr 1) g):=by
 have hlen:(fv b p).length=(i6 b p).length:=bJ _;have P:(i6 b p).length<=20:=by induction b using aS<;>induction p using Pr.casesOn<;>exact dc rfl
 refine ls (n+2) hp g λr e R=>cW r (k:=(i6 b p).length+4) (by lia) λi S T=>?_;have B:(i6 b p++[Fd.l4,.len,.st,.nf]).length=(i6 b p).length+4:=by rw[d6];rfl
 have E:i<(i6 b p++[Fd.l4,.len,.st,.nf]).length:=rwl B T;obtain⟨f,O,Y⟩:∃f:Fd,f.Ok/\(fv b p++[.str i9,.str pW,.str lT,.str jw])[i]?=aa (.str f.name):=by
  refine i12 ((i6 b p++[Fd.l4,.len,.st,.nf])[i]'E) ?_ ?_
  ·have c:=nW (l:=i6 b p++[Fd.l4,.len,.st,.nf]) (n:=i) E;rcases List.mem_append.mp c with h|h
   ·exact(JJ _ h).1
   ·simp only[sS,CA,or_false] at h;rcases h with h|h|h|h<;>rw[h]<;>trivial
  ·have:fv b p++[.str i9,.str pW,.str lT,.str jw]=(i6 b p++[Fd.l4,.len,.st,.nf]).map λf=>V.str f.name:=by rw[jo];rfl
   rw[this,gB,cT E];rfl
 have J:=xr n g (ok.dr 1) O;have go:∀o,value σ.h σ.L f=o->bq (n+4) uJ [.ref 0,.ref 7,.lst<|fv b p] (M σ g)=.ok (.tup [f.toV,nV<|o.getD 7]) (M (σ.dr 1) g):=by
  intro o d;have J:bq (n+3) jx [.ref 7,.str f.name] (M (σ.dr 1) g)=.ok (oV o) (M (σ.dr 1) g):=by rw[<-d];exact J
  refine fE [c4,jx] ?_;refine aJ (aih (a:=fv b p) (by simp only[jZ,G9];lia)) ?_;refine aM R (aJ (AA (l:=fv b p) (by lia) _) ?_);rw[hlen];rfl';rw[show bX r (((i6 b p).length:Int)+4)=(i:Int) from S];refine aJ (A1 Y (by lia))<|aM J ?_;induction o using aO with|none=>exact rfl|some z=>exact rfl
 exact iY f _ O<|go _ rfl
theorem Rh(n:Nat)(hp:jU σ (k+1+ds.length))(hd:ds.length<=5)(g)(z):∃(l:List Li)(g':J),Ex g g'/\l.map (·.dat)=ds/\bq (n+2) w9 [.ref 0,nV z,.lst<|ds.map .tup] (M σ g)=.ok (oH l) (M (σ.dr<|1+ds.length) g'):=by
 refine enter [c4] (K:=λr=>∃(l:List Li)(g':J),Ex g g'/\l.map (·.dat)=ds/\r=.ok (oH l) (M (σ.dr<|1+ds.length) g')) ?_;rfl';rw[jG ..];refine gl λc O=>?_;refine ls n hp (g++[.lst []]) λr e P=>?_;refine cW r (k:=5) (dl rfl) λj f p=>?_;refine O ?_;refine aM P ?_;rfl';rw[show bX r 5=(j:Int) from f,show(if (0:Int)<(z:Int)-(j:Int) then(z:Int)-(j:Int) else 0)=((z-j:Nat):Int) by lia];have S:∀m,ei m (.lst<|ds.map .tup)=aa (ds.map .tup):=λm=>aC (by rw[bJ ..];exact au (by assumption) (by decide));refine fj (S _) (j6 (kg S rfl) (λi (q:List Li×Nat×Sl×Sl)=>[.val<|.ref 0,.val<|nV z,.val<|.lst<|ds.map .tup,.val<|.ref (M σ g).length,.val<|nV q.2.1,q.2.2.1,q.2.2.2]) (λi q=>M (σ.dr<|1+i)<|g++[.lst<|q.1.map Li.toV]) (λi q=>q.1.map (·.dat)=ds.take i) ?_ ?_ ([],z-j,_,_) rfl rfl rfl)
 ·intro i v q h E K hK;obtain⟨l,B,a,b⟩:=q;dsimp only at E;refine xt h λd T o=>rwl o ?_;have Gp:=(List.getElem?_eq_some_iff.mp T).1;refine gl λc O=>?_;refine ls n (hp.dr (j:=1+i) (by lia)) (g++[.lst<|l.map Li.toV]) λr e P=>?_;refine cW r (k:=2) (by decide) λx V Z=>?_;refine cW (cU r 2) (k:=3) (by decide) λy Y Z=>?_;refine O ?_;have R:l.length<=5:=by have:=aw pJ E;rw[bJ,gf] at this;lia
  have s:∀w,(M (σ.dr<|1+i)<|g++[w])[(M σ g).length]?=aa w:=λw=>g9 (σ.dr<|1+i) g w;refine aM P ?_;rw[show(σ.dr<|1+i).dr 1=σ.dr (1+(i+1)) by unfold Sg.dr;dsimp only;rw[show σ.at_+(1+i)+1=σ.at_+(1+(i+1)) by lia]];refine vw (qc<|g9 (σ.dr<|1+(i+1)) g _) ?_;rw[show bX r 2=(x:Int) from V,show bX (cU r 2) 3=(y:Int) from Y];refine eA (ez (l:=l.map Li.toV) (g9 (σ.dr<|1+(i+1)) g _) (by rw[bJ ..];exact bS (by assumption) (by decide)) _) ?_;rfl';rw[show bX r 2=(x:Int) from V,show bX (cU r 2) 3=(y:Int) from Y];refine Ms ?_<|hK (l++[⟨B+x,B+x+y,d⟩],B+x+y+1,_,_) ?_
  ·refine(?_:_=M _ (g++[.lst<|MV _ _]));rw[ng ..,jo];rfl
  ·rw[jo,E,pO,T];rfl
 ·intro q E;obtain⟨l,B,a,b⟩:=q;dsimp only at E;rw[bJ,lR] at E;rw[bJ ..];have R:l.length<=5:=by have:=aw pJ E;replace this:=(bJ ..)▸this;lia
  refine aJ (Sf (l:=l.map Li.toV) (g9 (σ.dr<|1+ds.length) g _) (by rw[bJ ..];exact au (by assumption) (by decide))) ?_;exact fX l _ (.app _ _) E rfl
theorem FQ[d:Decidable p](k1:p->K (.ok (.bool ae) m))(k2:¬p->K (.ok (.bool aq) m)):bK p m K:=by
 by_cases h:p
 ·exact Vn h<|k1 h
 ·exact KV h<|k2 h
theorem Uz(σ:Sg)(a b):(σ.dr a).dr b=σ.dr (a+b):=by unfold Sg.dr;dsimp only;rw[lS ..]
noncomputable def Gives(σ:Sg)(g:J)(c:Nat)(r:R V):Prop:=∃v B E,Gd v/\Ex g B/\E<=c/\r=.ok v (M (σ.dr E) B)
theorem aii(n:Nat)(hp:jU σ (k+7))(ok:jM σ)(g:J)(a:Bool)(p:Pr):Gives σ g 7 (bq (n+5) CZ [.ref 0,.ref 7,.lst<|fv a p] (M σ g)):=by
 refine gl λH T=>?_;refine ls (n+3) hp g λI f1 e1=>?_;refine ls (n+3) (hp.dr (j:=1) (by lia)) g λK f2 e2=>ls (n+3) (hp.dr (j:=2) (by lia)) g λB f3 e3=>cW I (k:=4) (by decide) λi hi i5=>cW K (k:=4) (by decide) λR hf fM=>?_;refine cW B (k:=2) (by decide) λb hb sA=>?_;refine T ?_;refine pk (g:=V.str) [Tp,Tq,Hq,HG] i5 λkind Z hk=>pk (g:=λz:Nat=>nV z) [2,10] sA λE L A=>?_;have L:=Or.imp_right GL.mp<|sS.mp L;refine gl λH T=>?_;refine cW (B*210306068529402873165736369884012333109) (k:=2^width E) (nX (by decide)) λnum d N=>?_;refine cW (cU B 2) (k:=2) (by decide) λq hq uz=>cW (cU B 4) (k:=60000) (by decide) λu Q Z=>cW (cU B 8) (k:=5) (by decide) λw hw Z=>cW (cU B 16) (k:=4) (by decide) λy U C=>cW (cU B 64) (k:=3) (by decide) λW D Z=>?_;refine cW (cU B 64) (k:=width E+1) (by lia) λo r apV=>?_;refine T ?_;obtain⟨S,s⟩:∃S:Option (Nat×Nat),(if q=1 then V.tup [nV u,nV<|u+w] else .none)=ly S:=by
  by_cases c:q=1
  ·exact⟨aa (u,u+w),aC c⟩
  ·exact⟨ag,aB c⟩
 refine pk (g:=V.tup) [[],[.str DX],[.str Dg],[.str DX,.str Dg]] C λt X Vz=>?_;have F:=qT (xT (p:=λl=>pG l.length 10) rfl X);have G:=List.all_eq_true.mp (xT (p:=λl=>l.all<|pl 50) rfl X);have O:∀(v:Nat)(ad:Ad),ad.Ok v->(match ad with|.map _ l=>∀x∈l,x.Nums|_=>True)->Gd (.tup [.str oG,.str kind,nV v,ad.toV,ly S,.tup t]):=λv ad h1 h2=>cu (.nat kind v ad S t) ⟨h1,F⟩ ⟨G,h2⟩ rfl
 refine tJ [c4,uJ,w9] (f:=N1) (by kernel_rfl) [.val<|.ref 0,.val<|.ref 7,.val<|.lst<|fv a p,.un,.un,.un,.un,.un,.un,.un,.un,.un,.un,.un] rfl rfl (nB 4 [.val<|.ref 0,.val<|.ref 7,.val<|.lst<|fv a p,.val<|.str kind,.val<|nV R,.val<|.int B,.val<|nV E,.val .none,.val .none,.val<|nV num,.un,.un,.un,.un] (M (σ.dr 3) g) (λK0 Y=>?_) ?_)
 ·rfl';refine aM e1 ?_;rfl';rw[show bX I 4=(i:Int) from hi];refine aJ (gE hk (by exact au (by assumption) (by decide)))<|aM e2 ?_;rfl';rw[show bX K 4=(R:Int) from hf];refine aM e3 ?_;rfl';rw[show bX B 2=(b:Int) from hb];refine aJ (gE A (by exact au (by assumption) (by decide))) (aJ (AX f3 Uy) (cG (λc=>?_) λc=>?_))
  ·have P:width E=32:=aC<|i8 c;rw[P] at d;rfl';rw[show bX (B*210306068529402873165736369884012333109) (2^uF 32)=(num:Int) from d];exact Y
  ·have P:width E=128:=aB λh=>c<|aw nY h;rw[P] at d;rfl';rw[show bX (B*210306068529402873165736369884012333109) (2^uF 128)=(num:Int) from d];exact Y
 refine nB 2 [.val<|.ref 0,.val<|.ref 7,.val<|.lst<|fv a p,.val<|.str kind,.val<|nV R,.val<|.int B,.val<|nV E,.val .none,.val<|ly S,.val<|nV num,.val<|.tup t,.un,.un,.un] (M (σ.dr 3) g) (λK0 Y=>?_) ?_
 ·rfl';rw[show bX (cU B 2) 2=(q:Int) from hq];refine cG (λc=>?_) λc=>?_
  ·rw[aC<|i8 c] at s;rfl';rw[show bX (cU B 4) 60000=(u:Int) from Q,show bX (cU B 8) 5=(w:Int) from hw,show bX (cU B 16) 4=(y:Int) from U];refine aJ (gE Vz (by exact au (by assumption) (by decide))) ?_;exact wi (by rw[<-s];rfl) rfl Y
  ·rw[aB λh=>c<|aw nY h] at s;rfl';rw[show bX (cU B 16) 4=(y:Int) from U];exact aJ (gE Vz (by exact au (by assumption) (by decide))) (wi (by rw[<-s]) rfl Y)
 refine FL 1 (λe m=>e=[.val<|.ref 0,.val<|.ref 7,.val<|.lst<|fv a p,.val<|.str kind,.val<|nV R,.val<|.int B,.val<|nV E,.val .none,.val<|ly S,.val<|nV num,.val<|.tup t,.un,.un,.un]/\m=M (σ.dr 3) g) ?_ ?_
 ·rfl';refine FQ (λc=>?_) λc=>?_
  ·rfl';exact ee _ _ 3 (O 0 .none trivial trivial) (.rfl) (by decide) rfl
  ·rfl';refine FQ (λc=>?_) λc=>?_
   ·rfl';exact ee _ _ 3 (O 0 .none trivial trivial) (.rfl) (by decide) rfl
   ·rfl';exact⟨rfl,rfl⟩
 intro e m ao;refine aW ao λcK kJ=>rwl cK (rwl kJ (cG (λc1=>?_) λc1=>?_))
 ·obtain rfl:R=1:=i8 c1;rfl';rw[show bX (cU B 64) 3=(W:Int) from D];exact ee _ _ 3 (O E (.span num<|num+W) trivial trivial) (.rfl) (by decide) rfl
 refine cG (λc2=>?_) λc2=>?_
 ·obtain rfl:R=2:=i8 c2;refine cG (λc=>?_) λc=>?_
  ·have P:width E=32:=aC<|i8 c;rw[P] at r;rfl';rw[show bX (cU B 64) 33=(o:Int) from r];exact ee _ _ 3 (O E (.pC num o) ⟨by lia,N⟩ trivial) (.rfl) (by decide) rfl
  ·have P:width E=128:=aB λh=>c<|aw nY h;rw[P] at r;rfl';rw[show bX (cU B 64) 129=(o:Int) from r];exact ee _ _ 3 (O E (.pC num o) ⟨by lia,N⟩ trivial) (.rfl) (by decide) rfl
 refine cG (λc3=>?_) λc3=>?_
 ·refine gl λH T=>?_;refine fw (near_is n (hp.dr (j:=3) (by lia)) (ok.dr 3) g a p) λf z fo en=>?_;refine cP (Rh (n+2) (ds:=[[nV num],[nV num,nV u]]) (hp.dr (j:=4) (by lia)) (show 2<=5 by decide) g z) λl g' hg hl es=>?_;refine T ?_;refine aM en ?_;rfl';rw[show bX (cU B 4) 60000=(u:Int) from Q];refine aM es (ee _ g' 7 (O E (.map f l) (cv fo ?_ ?_) ?_) hg (by decide) rfl)
  ·have:=aw pJ hl;rw[bJ] at this;rw[this];exact(show 2<=10 by decide)
  all_goals
   intro x hx;have:x.dat∈l.map (·.dat):=zq hx;rw[hl] at this;refine bZ (sS.mp this) (λh=>?_) λh=>?_
   ·exact .inl ⟨_,h⟩
   ·exact .inr<|gM _ _<|GL.mp h
 exact ee _ _ 3 (O E .none trivial trivial) (.rfl) (by decide) rfl
noncomputable def Sm.K3(s:Sm):Bool:=s.ctorIdx==1||pG 9 s.ctorIdx
theorem Sy{s:Sm}(h:s.K3=ae):s.Ok/\s.Good:=by induction s using Sm.casesOn<;>first|exact⟨trivial,trivial⟩|exact dG h
theorem aij(n:Nat)(hp:jU σ (k+9))(ok:jM σ)(g)(d)(p):Gives σ g 9 (bq (n+6) CX [.ref 0,.ref 7,.lst<|fv d p] (M σ g)):=by
 refine gl λP E=>?_;refine ls (n+4) hp g λD f1 L=>?_;refine cW D (k:=14) (dl rfl) λpick Y eZ=>?_;refine E ?_;refine enter [c4,C6,uJ,w9,CZ] (K:=Gives σ g 9)<|aM L ?_;rfl';rw[show bX D 14=(pick:Int) from Y];refine cG (λc=>?_) λN=>?_
 ·exact bo (acW (n+3) (hp.dr (j:=1) (by lia)) g d p) λv Q e=>aM e<|ee v g 4 Q (.rfl) (dl rfl) rfl
 have N:¬pick<5:=by lia
 refine cG (λc=>?_) λc=>?_
 ·
  obtain rfl:pick=5:=i8 c;refine gl λP E=>?_;refine fw (near_is (n+1) (hp.dr (j:=1) (by lia)) (ok.dr 1) g d p) λf z m q=>?_;refine ls (n+4) (hp.dr (j:=2) (by lia)) g λB U r=>ls (n+4) (hp.dr (j:=3) (by lia)) g λF f3 W=>cW B (k:=8) (dl rfl) λi J O=>?_;refine cW F (k:=3) (dl rfl) λt X Z=>?_;refine E ?_;refine pk (g:=λo:Cm=>V.str o.word) [.eq,.ne,.lt,.le,.gt,.ge,.any,.none] O λo Z ho=>aM q ?_;rfl';refine aM r ?_;rfl';rw[show bX B 8=(i:Int) from J];refine aJ (gE ho (by exact au (by assumption) (by decide)))<|aM W ?_;rfl';rw[show bX F 3=(t:Int) from X,show(if (0:Int)<(z:Int)+(t:Int)-1 then(z:Int)+(t:Int)-1 else 0)=((z+t-1:Nat):Int) by lia];exact ee _ g 4 (cu (.nM f o<|z+t-1) m trivial rfl) (.rfl) (dl rfl) rfl
 refine cG (λG=>?_) λG=>?_
 ·
  obtain rfl:pick=6:=i8 G;refine gl λP E=>?_;refine fw (near_is (n+1) (hp.dr (j:=1) (by lia)) (ok.dr 1) g d p) λf z m q=>?_;refine cP (Rh (n+3) (ds:=[[.str m5,.str k_],[.str Jv,.str wh],[.str m5,.str k_]]) (hp.dr (j:=2) (by lia)) (dl rfl) g z) λl u hg I e=>?_;refine E ?_;refine aM q ?_;rfl';refine aM e<|ee _ u 6 (cu (.mN f l) (cv m ?_ ?_) trivial rfl) hg (dl rfl) rfl
  ·have:=aw pJ I;replace this:=(bJ ..)▸this;rw[this];exact(show 3<=10 by decide)
  ·intro x R;have:x.dat∈l.map (·.dat):=zq R;replace this:=(I)▸this;refine bZ (sS.mp this) (λh=>?_) λh=>?_
   ·exact⟨.cont,by rw[h];rfl⟩
   refine bZ (sS.mp h) (λh=>?_) λh=>?_
   ·exact⟨.Vr,by rw[h];rfl⟩
   ·exact⟨.cont,by rw[GL.mp h];rfl⟩
 refine ls (n+4) (hp.dr (j:=1) (by lia)) g λB U r=>aM r (cG (λc7=>?_) λc7=>?_)
 ·
  refine gl λP E=>?_;refine cW B (k:=3) (dl rfl) λi J O=>?_;refine cW (cU B 3) (k:=2) (dl rfl) λj hj qS=>?_;refine E ?_;refine pk (g:=V.str) [k_,R0,wh] O λx Z R=>pk (g:=V.str) [Tr,Ts] qS λy Z hy=>?_;rfl';rw[show bX B 3=(i:Int) from J];refine aJ (gE R (by exact au (by assumption) (by decide))) ?_;rfl';rw[show bX (cU B 3) 2=(j:Int) from hj];exact aJ (gE hy (by exact au (by assumption) (by decide)))<|ee _ g 2 (cu (.log x y) trivial trivial rfl) (.rfl) (dl rfl) rfl
 refine cG (λc8=>?_) λc8=>?_
 ·rfl';exact ee _ g 2 (cu (.pE) trivial trivial rfl) (.rfl) (dl rfl) rfl
 refine cG (λc9=>?_) λc9=>?_
 ·refine cW B (k:=3) (dl rfl) λi J O=>?_;rw[show bX B 3=(i:Int) from J];refine cG (λc=>?_) λc=>?_
  ·refine gl λP E=>?_;refine cW (cU B 3) (k:=9) (dl rfl) λa S Z=>?_;refine cW (cU B 27) (k:=900) (dl rfl) λb T Z=>?_;refine E ?_;rfl';rw[show bX (cU B 3) 9=(a:Int) from S,show bX (cU B 27) 900=(b:Int) from T];exact ee _ g 2 (cu (.cnt a b) trivial trivial rfl) (.rfl) (dl rfl) rfl
  ·refine gl λP E=>?_;refine cW (cU B 3) (k:=120) (dl rfl) λa S Z=>?_;refine cW (cU B 360) (k:=60) (dl rfl) λb T Z=>?_;refine E ?_;rw[show bX B 3=(i:Int) from J];refine cG (λc=>?_) λc=>?_
   ·rfl';rw[show bX (cU B 3) 120=(a:Int) from S,show bX (cU B 360) 60=(b:Int) from T];exact ee _ g 2 (cu (.dZ ae a b) trivial trivial rfl) (.rfl) (dl rfl) rfl
   ·rfl';rw[show bX (cU B 3) 120=(a:Int) from S,show bX (cU B 360) 60=(b:Int) from T];exact ee _ g 2 (cu (.dZ aq a b) trivial trivial rfl) (.rfl) (dl rfl) rfl
 refine cG (λw=>?_) λw=>?_
 ·have R:=aii n (hp.dr (j:=2) (by lia)) (ok.dr 2) g d p;exact jQ R λv u c' h1 h2 h3 h4=>aM h4 (ee v u (2+c') h1 h2 (by lia) (by rw[Uz ..]))
 refine cG (λw=>?_) λw=>?_
 ·refine cW B (k:=7) (dl rfl) λi J O=>pk (g:=Sm.toV) [.lN .ug,.lN .tU,.lN .tL,.lN .dY,.mO .go,.mO .cont,.mO .goto] O λs A C=>?_;rfl';rw[show bX B 7=(i:Int) from J];refine aJ (A1 C (by exact au (by assumption) (by decide))) ?_;have h:=Sy<|xT (p:=Sm.K3) rfl A;exact ee _ g 2 (cu s h.1 h.2 rfl) (.rfl) (dl rfl) rfl
 refine cW B (k:=9) (dl rfl) λi J O=>pk (g:=Sm.toV) [.H .Vq,.exp ae,.H .len,.exp aq,.H .st,.pF,.H .none,.dup,.H .BK] O λs A C=>?_;rfl';rw[show bX B 9=(i:Int) from J];refine aJ (A1 C (by exact au (by assumption) (by decide))) ?_;have h:=Sy<|xT (p:=Sm.K3) rfl A;exact ee _ g 2 (cu s h.1 h.2 rfl) (.rfl) (dl rfl) rfl
structure jO(ay:Bool)(p:Pr)(aG:Nat)(bx:Bool)(l:List Nat):Prop where
 lo:aG+5<=l.length
 hi:l.length<=70
 lt:∀b∈l,b<256
 bg:20<=aG/\aG<=40/\aG%4=0
 f4:ay=ae->l.getD 0 0=64+aG/4/\aG<=28/\l.getD 9 0=p.nn/\(bx=ae->l.getD 6 0=0/\1<=l.getD 7 0)/\(bx=aq->l.getD 6 0=64/\l.getD 7 0=0)
 f6:ay=aq->aG=40/\l.getD 0 0/16=6/\l.getD 6 0=p.nn/\bx=aq
def gJ(xs:mV)(k s:Nat):O:=.lst [.lst xs,nV k,nV s]
theorem nh{l:z0}(h:∀x∈l,x<256)(hb:b<256):∀x∈l.set i b,x<256:=by
 intro x B;rcases XY B with B|rfl
 ·exact h x B
 ·exact hb
theorem qf(h:k+1<=l.length){G:Prop}(kk:∀a r,l=a::r->k<=r.length->G):G:=by induction l using dz with|nil=>exact nomatch h|cons a r=>exact kk a r rfl (NR h)
theorem WK(h:10<=l.length){P:z0->Prop}(k:∀a b c d f g i j m n r,P (a::b::c::d::f::g::i::j::m::n::r)):P l:=
 qf h λZ Z e h=>e▸qf h λZ Z e h=>e▸qf h λZ Z e h=>e▸qf h λZ Z e h=>e▸qf h λZ Z e h=>e▸qf h λZ Z e h=>e▸qf h λZ Z e h=>e▸
  qf h λZ Z e h=>e▸qf h λZ Z e h=>e▸qf h λZ Z e Z=>e▸k _ _ _ _ _ _ _ _ _ _ _
theorem VA{l:z0}(hl:l.length=aG+many)(hm:5<=many/\many<=26)(bC:∀b∈l,b<256)(c:w<3)(hb:aG=20+4*w)(a)(hz:z<200)(d)
  (e:d=cond a ((((((((l.set 0<|69+w).set 2 0).set 3<|aG+many).set 6 64).set 7 0).set 9 p.nn).set 6 0).set 7<|1+z) ((((((l.set 0<|69+w).set 2 0).set 3<|aG+many).set 6 64).set 7 0).set 9 p.nn)):jO ae p aG a d:=by
 subst hb e;have S:p.nn<256:=by induction p using Pr.casesOn<;>exact dc rfl
 have B:=kZ (wz 4<|lP c) 20;have O:=mX B hm.2;have E:=nh (i:=9) (nh (i:=7) (nh (i:=6) (nh (i:=3) (nh (i:=2) (nh (i:=0) bC<|cL (wO c 69)<|dl rfl) (show 0<256 by decide))<|bS O<|dl rfl) (show 64<256 by decide)) (show 0<256 by decide)) S;have M:20<=20+4*w/\20+4*w<=40/\(20+4*w)%4=0:=cv (cZ _ _) (au B<|dl rfl)<|apz 20 4 w;have R:69+w=64+(20+4*w)/4:=((aw (64+·)<|Nat.add_mul_div_left 20 w<|dl rfl).trans (lS 64 5 w).symm).symm;have T:10<=l.length:=hl▸au (dl rfl) (au M.1<|cZ _ _);have lo:=hl▸kZ hm.1 _;have J:l.length<=70:=hl▸au O (dl rfl);clear hl bC;revert E lo J;refine WK (P:=λl=>(∀x∈((((((l.set 0<|69+w).set 2 0).set 3<|20+4*w+many).set 6 64).set 7 0).set 9 p.nn),x<256)->20+4*w+5<=l.length->l.length<=70->jO ae p (20+4*w) a (cond a ((((((((l.set 0<|69+w).set 2 0).set 3<|20+4*w+many).set 6 64).set 7 0).set 9 p.nn).set 6 0).set 7<|1+z)<|(((((l.set 0<|69+w).set 2 0).set 3<|20+4*w+many).set 6 64).set 7 0).set 9 p.nn)) T λV Y f g j k m n o q r E lo J=>?_;induction a using aS with|false=>exact⟨lo,J,E,M,λZ=>vJ R B rfl (λh=>iI h) λZ=>⟨rfl,rfl⟩,λh=>iI h⟩|true=>exact⟨lo,J,nh (i:=7) (nh (i:=6) E (show 0<256 by decide))<|cL (wO hz 1)<|dl rfl,M,λZ=>vJ R B rfl (λZ=>⟨rfl,cZ 1 z⟩) λh=>iI h,λh=>iI h⟩
theorem an2{l:z0}(hl:l.length=40+many)(hm:5<=many/\many<=26)(bC:∀b∈l,b<256)(hz:z<16):jO aq p 40 aq ((((l.set 0<|96+z).set 4 0).set 5 many).set 6 p.nn):=by
 have E:p.nn<256:=by induction p using Pr.casesOn<;>exact dc rfl
 have bC:=nh (i:=6) (nh (i:=5) (nh (i:=4) (nh (i:=0) bC<|cL (wO hz 96)<|dl rfl) (show 0<256 by decide))<|bS hm.2<|dl rfl) E;have lo:=hl▸kZ hm.1 _;have B:l.length<=70:=hl▸au (kZ hm.2 40) (dl rfl);have J:10<=l.length:=au (dl rfl) lo;clear hl;revert bC lo B;exact WK (P:=λl=>(∀x∈((((l.set 0<|96+z).set 4 0).set 5 many).set 6 p.nn),x<256)->40+5<=l.length->l.length<=70->jO aq p 40 aq ((((l.set 0<|96+z).set 4 0).set 5 many).set 6 p.nn)) J λM O R S T V Y a c d r bC lo B=>⟨lo,B,bC,cv (dl rfl) (dl rfl) rfl,λh=>iI h,λZ=>lG rfl ((GC (dl rfl) 6 z).trans (aw (6+·)<|Hg hz)) rfl rfl⟩
theorem aik(h:m[r]?=aa (.lst l))(hx:l[i]?=aa v)(hi:i<1000000):ky m (.ref r) (nV i)=aa v:=by unfold ky;rw[jd h];exact tK hx hi
section
variable{n:Nat}{xs:mV}{k s:Nat}{mo:O}{ay:Bool}{p:Pr}
def oE(ay:Bool)(p:Pr)(r:Env):Env:=.val (.ref 0)::.val (.bool ay)::.val (.int p.num)::r
theorem Eg(hp:tT xs (k+4) s)(mo){j:Nat}(a:j<4){G:Prop}(kk:∀r,jT r->bq (n+1) c4 [.ref 0] [gJ xs (k+j) s,mo]=.ok (.int r) [gJ xs (k+j+1) s,mo]->G):G:=bo (Az (k:=k+j) n ⟨hp.len,hp.wj,d7 (wO a k) hp.k,hp.s⟩ [mo]) kk
theorem amS(hp:tT xs (k+4) s){K:KF}(hK:∀(w:Nat)(a)(b)(c),w<3->jT b->(ay=aq->a=aq)->c<=3->K (.nx (oE ay p [.val<|nV w,.val<|.bool a,.val<|.int b,.un,.un,.un,.un,.un]) [gJ xs (k+c) s,mo])):
  kB aR (kF aR bN (λy=>[c4].contains y)<|n+1) (uH.body.take 1) (oE ay p [.un,.un,.un,.un,.un,.un,.un,.un]) [gJ xs k s,mo] K:=by
 refine Eg (n:=n) hp mo (j:=0) (dl rfl) λB Y J=>Eg (n:=n) hp mo (j:=1) (dl rfl) λT V M=>Eg (n:=n) hp mo (j:=2) (dl rfl) λO P R=>cW B (k:=3) (dl rfl) λw S E=>?_;induction ay using aS with
 |true=>
  refine aM J ?_;rfl';rw[show bX B 3=(w:Int) from S];refine aM M (cG (λc=>?_) λc=>?_)
  ·rfl';exact aM R (hK w ae O 3 E P (λh=>(by exact ia h))<|dl rfl)
  ·rfl';exact aM R (hK w aq O 3 E P (λZ=>rfl)<|dl rfl)
 |false=>
  refine aM J ?_;rfl';rw[show bX B 3=(w:Int) from S];exact aM M (hK w aq T 2 E V (λZ=>rfl)<|dl rfl)
theorem UA(h:ae=[0,1,3,-3,6,2].all λd:Int=>decide<|(z:Int)+d=((z:Int)+d).toNat/\5<=((z:Int)+d).toNat/\((z:Int)+d).toNat<=26)(a:j<6):∃(d:Int)(many:Nat),[V.int 0,.int 1,.int 3,.int<|-3,.int 6,.int 2][j]?=aa (.int d)/\(z:Int)+d=many/\5<=many/\many<=26:=
 pk (g:=V.int) [0,1,3,-3,6,2] a λd md k=>iY d _ k<|of_decide_eq_true<|xT h md
theorem ail{j z:Nat}(a:j<6)(hz:z=20\/z=8):∃(d:Int)(many:Nat),[V.int 0,.int 1,.int 3,.int<|-3,.int 6,.int 2][j]?=aa (.int d)/\(z:Int)+d=many/\5<=many/\many<=26:=
 bZ hz (λe=>rwl e<|UA rfl a) λe=>rwl e<|UA rfl a
theorem TU{w aG many:Nat}(a:w<3)(hm:5<=many/\many<=26)(h4:ay=ae->aG=20+4*w)(h6:ay=aq->aG=40):10<=aG+many/\aG+many<1000:=by
 have h:20<=aG/\aG<=40:=by induction ay using aS with|false=>rw[h6 rfl];decide|true=>rw[h4 rfl];exact⟨cZ _ _,au (kZ (wz 4<|eg a) 20)<|dl rfl⟩
 exact⟨au (dl rfl)<|au h.1<|cZ _ _,bS (mX h.2 hm.2)<|dl rfl⟩
theorem amT(hp:tT xs (k+4) s){c:Nat}(hc:c<4){w:Nat}(f:w<3)(hK:∀many aG,5<=many/\many<=26->(ay=ae->aG=20+4*w)->(ay=aq->aG=40)->K (.nx (oE ay p [.val<|nV w,e,b,.val<|nV many,.val<|nV aG,.un,.un,.un]) [gJ xs (k+c+1) s,mo])):
  kB aR (kF aR bN (λy=>[c4].contains y)<|n+1) ((uH.body.drop 1).take 2) (oE ay p [.val<|nV w,e,b,.un,.un,.un,.un,.un]) [gJ xs (k+c) s,mo] K:=by
 refine Eg (n:=n) hp mo hc λr V O=>cW r (k:=6) (dl rfl) λj P E=>?_;have rest:∀many,5<=many/\many<=26->kB aR (kF aR bN (λy=>[c4].contains y)<|n+1) (((uH.body.drop 1).take 2).drop 1) (oE ay p [.val<|nV w,e,b,.val<|nV many,.un,.un,.un,.un]) [gJ xs (k+c+1) s,mo] K:=by
  intro many J;induction ay using aS with
  |true=>
   exact aJ (jB (a:=4) (b:=w) (dl rfl)<|small<|d7 f<|dl rfl) (hK many (20+4*w) J (λZ=>rfl) λh=>by exact ia h)
  |false=>
   exact hK many 40 J (λh=>by exact dG h) λZ=>rfl
 refine iD 1 ?_;have B:∀K,(∀z,z=20\/z=8->K (.ok (nV z) [gJ xs (k+c) s,mo]))->kE aR (kF aR bN (λy=>[c4].contains y)<|n+1) (.ite (.cmp .eq (.ba 2)<|.bU<|.int 6) (.bU<|.int 20)<|.bU<|.int 8) (oE ay p [.val<|nV w,e,b,.un,.un,.un,.un,.un]) [gJ xs (k+c) s,mo] K:=by
  intro K M;clear hK rest;induction p using Pr.casesOn with
  |dY=>exact iK_t (dc rfl) (M 20<|.inl rfl)
  |_=>exact iK_f (dc rfl) (M 8<|.inr rfl)
 refine B _ λz B=>cP (ail E B) λd many R S T=>aM O ?_;rfl';rw[show bX r 6=(j:Int) from P];refine aJ (gE R<|d7 E<|dl rfl) ?_;rfl';rw[show(z:Int)+d=many from S];exact rest many T
theorem amU(hz:aG+many<1000)(hK:∀(l)(x)(a),l.length=aG+many->(∀y∈l,y<256)->K (.nx (oE ay p [w,c,.val<|.int b,.val<|nV many,.val<|nV aG,.val<|.ref 2,.val<|nV x,a]) [d,mo,.lst<|bH l])):
  kB aR (kF aR bN (λy=>[c4].contains y)<|n+1) ((uH.body.drop 3).take 2) (oE ay p [w,c,.val<|.int b,.val<|nV many,.val<|nV aG,.un,.un,.un]) [d,mo] K:=by
 refine cW b (k:=65537) (dl rfl) λP T M=>?_;rfl';rw[show bX b 65537=(P:Int) from T];have R:=qA (n:=aG+many)<|d7 hz<|dl rfl;refine fj (R _) (j6 (kg R rfl) (λi (q:z0×Nat×Sl)=>oE ay p [w,c,.val<|.int b,.val<|nV many,.val<|nV aG,.val<|.ref 2,.val<|nV q.2.1,q.2.2]) (λi q=>[d,mo,.lst<|bH q.1]) (λi q=>q.2.1<65537/\q.1.length=i/\∀y∈q.1,y<256) ?_ ?_ ([],P,_) (cv M rfl λy h=>aT h CA) rfl rfl)
 ·intro i v q V B K hK;obtain⟨l,x,a⟩:=q;refine fW B λJ s E=>?_;dsimp only at J s E;refine m8 V λY B=>rwl B<|aJ (jB (a:=x) (b:=75) (fa (b:=17) (dl rfl)<|d7 J<|dl rfl)<|dl rfl) ?_;rfl';rw[show bX (((x*75:Nat):Int)+74) 65537=(((x*75+74)%65537:Nat):Int) from oj (x*75+74) 65537];have S:(x*75+74)%65537<65537:=sW _<|dl rfl;generalize(x*75+74)%65537=y at*;rw[show bX (y:Int) 251=((y%251:Nat):Int) from oj y 251,show cU (y:Int) 13107=((y/13107:Nat):Int) from m9 y 13107];refine eA (ez (j:=2) (l:=bH l) rfl (by rw[eV ..,s];exact d7 Y (d7 hz<|dl rfl)) _) ?_;have O:=hK (l++[y%251+y/13107],y,.val<|nV i) (cv S (by rw[d6];exact aw (·+1) s) λz hz=>bZ (List.mem_append.mp hz) (E z) λhz=>rwl (GL.mp hz)<|cL (Nat.add_lt_add_of_lt_of_le (sW _<|dl rfl)<|wU<|lP S)<|dl rfl);dsimp only at O;rw[show bH (l++[y%251+y/13107])=bH l++[nV<|y%251+y/13107] from jo] at O;exact O
 ·intro q B;obtain⟨l,x,a⟩:=q;refine fW B λJ s E=>?_;dsimp only at J s E;rw[bJ,iL] at s;have:=hK l x a s E;exact this
theorem nj(hi:i<10)(hl:10<=l.length)(hh:l.length<1000):uS [a,mo,.lst<|bH l] (.ref 2) (nV i) (nV v)=aa [a,mo,.lst<|bH<|l.set i v]:=by rw[xy (m:=[a,mo,.lst<|bH l]) (j:=2) (l:=bH l) (i:=i) rfl (by rw[eV ..];exact cL hi hl) (by rw[eV ..];exact d7 hh (dl rfl))<|nV v,xJ ..];rfl
theorem qm{l:z0}(h:10<=l.length/\l.length<z):10<=(l.set i v).length/\(l.set i v).length<z:=by rw[q8];exact h
theorem amV{e:O}(d:w<3)(hm:5<=many/\many<=26)(h4:ay=ae->aG=20+4*w)(h6:ay=aq->aG=40/\c=aq)(hl:l.length=aG+many)(hb:∀y∈l,y<256)
  (hK:∀f,jO ay p aG c f->K (.ok (.tup [.ref 2,nV aG,.bool c]) [e,mo,.lst<|bH f])):
  kB aR (kF aR bN (λy=>[c4].contains y)<|n+1) (uH.body.drop 5) (oE ay p [.val<|nV w,.val<|.bool c,.val<|.int b,.val<|nV many,.val<|nV aG,.val<|.ref 2,x,a]) [e,mo,.lst<|bH l] (qy K):=by
 have s:=hl▸TU d hm h4 λh=>(h6 h).1;induction ay using aS with
 |true=>
  have S:=h4 rfl;refine cW b (k:=200) (dl rfl) λz Y T=>?_;have B:=qm (i:=0) (v:=69+w) s;have E:=qm (i:=2) (v:=0) B;have J:=qm (i:=3) (v:=aG+many) E;have M:=qm (i:=6) (v:=64) J;have P:=qm (i:=7) (v:=0) M;have R:=qm (i:=9) (v:=p.nn) P;have V:=qm (i:=6) (v:=0) R;refine dQ (nj (v:=69+w) (dl rfl) s.1 s.2)<|dQ (nj (v:=0) (dl rfl) B.1 B.2)<|dQ (nj (v:=aG+many) (dl rfl) E.1 E.2)<|dQ (nj (v:=64) (dl rfl) J.1 J.2)<|dQ (nj (v:=0) (dl rfl) M.1 M.2) ?_;rfl';rw[rL ..];refine dQ (nj (v:=p.nn) (dl rfl) P.1 P.2) ?_;induction c using aS with
  |false=>
   exact hK _<|VA hl hm hb d S aq T _ rfl
  |true=>
   rfl';rw[show bX b 200=(z:Int) from Y];exact dQ (nj (v:=0) (dl rfl) R.1 R.2)<|dQ (nj (v:=1+z) (dl rfl) V.1 V.2)<|hK _<|VA hl hm hb d S ae T _ rfl
 |false=>
  refine aW (h6 rfl) λg j=>?_;subst g;subst j;obtain⟨y,m⟩:∃y,l[0]?=aa y:=⟨_,cT (cL (by decide) s.1)⟩;have B:=qm (i:=0) (v:=96+y%16) s;have E:=qm (i:=4) (v:=0) B;have J:=qm (i:=5) (v:=many) E;refine aJ (aik (i:=0) (l:=bH l) rfl (Jz m) (by decide)) ?_;rfl';rw[show bX (y:Int) 16=((y%16:Nat):Int) from oj y 16,rL ..];exact dQ (nj (v:=96+y%16) (by decide) s.1 s.2) (dQ (nj (v:=0) (by decide) B.1 B.2) (dQ (nj (v:=many) (by decide) E.1 E.2) (dQ (nj (v:=p.nn) (by decide) J.1 J.2)<|hK _<|an2 hl hm hb<|sW _<|dl rfl)))
end
theorem acX(n:Nat)(hp:tT xs (k+4) s)(g)(e)(p):∃aG d l c,jO e p aG d l/\c<=4/\bq (n+2) C7 [.ref 0,.bool e,.int p.num] [gJ xs k s,g]=.ok (.tup [.ref 2,nV aG,.bool d]) [gJ xs (k+c) s,g,.lst<|bH l]:=by refine tJ [c4] (f:=uH) (K:=λr=>∃aG d l c,jO e p aG d l/\c<=4/\r=.ok (.tup [.ref 2,nV aG,.bool d]) [gJ xs (k+c) s,g,.lst<|bH l]) (by kernel_rfl) (oE e p [.un,.un,.un,.un,.un,.un,.un,.un]) rfl rfl ?_;exact iD 1 (amS hp λw d b c B V P E=>iD 2 (amT hp (GD E) B λmany aG J M O=>iD 2 (amU (TU B J M O).2 λl x a R S=>amV B J M (λh=>⟨O h,P h⟩) R S λT ok=>BQ aG d T (c+1) ok (gZ E) rfl)))
theorem VB(k:Nat)(h:eC aR (eW aR bN n) e m (l.take k)=.nx b m')(h2:kB aR (kF aR bN a n) (l.drop k) b m' K):kB aR (kF aR bN a n) l e m K:=by rw[rU<|rV aR bN a n] at h2⊢;rw[<-pR k l,Ja ..,h];exact h2
theorem afb(a b c d e f)(g h i j k l m n):eC aR (eW aR bN 19) [.val<|.ref 7,.val<|.ref 1,a,b,c,d,e,f,.un,.un,.un,.un,.un] [g,h,i,j,k,l,m,n] ((Di.body.drop 1).take 2)=
  .nx [.val<|.ref 7,.val<|.ref 1,a,b,c,d,e,f,.val<|.ref 8,.val<|.ref 13,.val<|.str CW,.un,.un] [g,h,i,j,k,l,m,n,.aA tA,.aA g6,.aA gt,.aA gu,.aA gm,.aA gc]:=by kernel_rfl
theorem K4{l:z0}(h:i<l.length):l[i]?=aa (l.getD i 0):=by rw[fy,cT h];rfl
theorem VC(t:Nat):cU (t:Int) (2^uF 4)=((t/16:Nat):Int):=m9 t 16
theorem afc(n){p:Pr}(lo:aG+5<=l.length)(hi:l.length<=70)(lt:∀b∈l,b<256)(c:20<=aG/\aG<=40/\aG%4=0)
  (d:l.getD 0 0=64+aG/4)(o:aG<=28)(q:l.getD 9 0=p.nn)(f:a=ae->l.getD 6 0=0/\1<=l.getD 7 0)(j:a=aq->l.getD 6 0=64/\l.getD 7 0=0){m:J}{r:Nat}(hm:m[r]?=aa (.bar l)):
  ∃(pl:Nat)(b:Bool),(pl=0<->a=aq)/\bq (n+2) Aq [.ref r] m=.ok (.tup [nV p.nn,nV aG,nV pl,.bool b]) m:=by
 have w:w2 l 6=l.getD 6 0*256+l.getD 7 0:=rfl;have B:=au (sU c.1 5) lo;have E:l.length<=1000000:=au hi<|dl rfl;have g:∀{i},i<25->l[i]?=aa (l.getD i 0):=λh=>K4<|cL h B;have O:l.getD 7 0<256:=by rw[fy,cT<|cL (dl rfl) B];exact lt _<|nW _
 have P:aG/4<16:=bS (wU o)<|dl rfl;have R:w2 l 6&&&8191=if a=ae then l.getD 7 0 else 0:=by
  rw[show(8191:Nat)=2^13-1 from rfl,wR ..,w];induction a using aS with
  |true=>rw[(f rfl).1,aC rfl,NQ ..,fQ ..];exact wF<|d7 O<|dl rfl
  |false=>rw[(j rfl).1,(j rfl).2,aB<|dc rfl]
 have key:∀b,dP (¬GN (w2 l 6:Int) 8192=0)=b->bq (n+2) Aq [.ref r] m=.ok (.tup [nV p.nn,nV aG,nV ((if a=ae then l.getD 7 0 else 0)*8),.bool b]) m:=by
  intro b M;refine fE [n5] (aJ (jC hm E)<|iK_f (mt Int.ofNat_lt.mp<|Nat.not_lt.mpr<|au (dl rfl) B)<|aJ (xO (i:=0) hm (g<|dl rfl)<|dl rfl) ?_);rfl';rw[d,VC ..];refine iK_f (by rw[show(64+aG/4)/16=4 from(GC (dl rfl) 4 _).trans (aw (4+·)<|Hg P)];decide) ?_;refine aJ (xO (i:=0) hm (g<|dl rfl)<|dl rfl) ?_;rfl';rw[d,show((15:Int))=((2^4-1:Nat):Int) from rfl,lp ..,wR ..];refine aJ (jB (b:=4) (fa (b:=4) (dl rfl)<|sW _<|dl rfl)<|dl rfl) ?_;rw[show(64+aG/4)%2^4*4=aG from(aw (·*4)<|(Nat.mul_add_mod 16 4 _).trans<|wF P).trans (apB<|yV c.2.2)];refine iK_f (mt Int.ofNat_lt.mp<|Nat.not_lt.mpr c.1)<|aJ (jC hm E)<|iK_f (mt Int.ofNat_lt.mp<|Nat.not_lt.mpr<|au (cZ _ 5) lo)<|aJ (Ed hm E (gw (k:=6)<|dl rfl)<|gw (k:=8)<|dl rfl) ?_;refine aM (Pn n (l:=cut l (aa 6)<|aa 8) (λb M=>lt b<|k8<|rb M) (by rw[r9 ..];exact au (gR _ _) (au (y5 _ _)<|au hi<|dl rfl))) ?_;rw[TJ (i:=6)<|au (dl rfl) B];refine aJ (xO (i:=9) hm (g<|dl rfl)<|dl rfl) ?_;rfl';rw[q,show((8191:Int))=((8191:Nat):Int) from rfl,lp ..,R];refine aJ (jB (b:=8) (fa (b:=8) (dl rfl) (by induction a using aS<;>first|exact O|exact(show 0<2^8 by decide)))<|dl rfl) ?_;rfl';rw[M];induction b using aS<;>rfl'
 refine iY _ _ ?_<|key _ rfl;induction a using aS with
 |true=>
  rw[aC rfl];have:=(f rfl).2;constructor
  ·exact λh=>(Nat.mul_eq_zero.mp h).elim (λe=>aT (e▸this)<|dc rfl) λe=>aT e<|dc rfl
  ·intro h;exact ia h
 |false=>exact⟨λZ=>rfl,λZ=>rfl⟩
theorem afd(n){p:Pr}(lo:45<=l.length)(hi:l.length<=70)(a:l.getD 0 0/16=6)(h6:l.getD 6 0=p.nn)(hm:m[r]?=aa (.bar l)):
  bq (n+3) D9 [.ref r] m=.ok (.tup [nV p.nn,nV 40,nV 0,.bool aq]) m:=by
 refine fE [] ?_;have B:l.length<=1000000:=au hi<|dl rfl;refine aJ (jC hm B)<|iK_f (mt Int.ofNat_lt.mp<|Nat.not_lt.mpr<|au (dl rfl) lo)<|aJ (xO (i:=0) hm (K4<|cL (dl rfl) lo)<|dl rfl) ?_;rfl';rw[VC ..,a];refine iK_f (dc rfl)<|aJ (xO (i:=6) hm (K4<|cL (dl rfl) lo)<|dl rfl) ?_;rw[h6];refine Gs ?_;rfl';refine aJ (jC hm B) ?_;induction p using Pr.casesOn<;>
 ·rfl';rfl
theorem aim(h:l.length<=1000000)(m):qF .bytearray [.bb l] m=.ok (.ref m.length) (m++[.bar l]):=aC h
section
variable(o0 o1 o2 o3 o4 o5 o6 o7 o8 o9 kQ kR kU kW:O)
noncomputable abbrev mP:J:=[o0,o1,o2,o3,o4,o5,o6,o7,o8,o9,kQ,kR,kU,kW]
theorem akX(a b c):bq 17 Dw [] (mP o0 o1 o2 o3 o4 o5 o6 o7 o8 o9 kQ kR kU kW++[a,b,c])=.ok (.ref 17) (mP o0 o1 o2 o3 o4 o5 o6 o7 o8 o9 kQ kR kU kW++[a,b,c,eO (.int 0)<|.int 0]):=by kernel_rfl
def EM(a:V):Lb:=[(iQ,.inst j4 14),(tQ,a),(AW,.str zW),(l8,.none),(k_state,.int 1),(xf,.int 0),(Av,.none),(tI,.ref 19),(zX,.ref 20),(rp,.ref 8),(uL,.ref 21),(tz,.ref 22),(Bm,.ref 23),(uV,.ref 24),(Aw,.str DY),(gV,.ref 25),(og,.ref 26),(k_steps,.none),(Ax,.ref 27)]
theorem ain(a b c d)(e):bq 19 fR [eS,.ref 8,e,.str zW] (mP o0 o1 o2 o3 o4 o5 o6 o7 o8 o9 kQ kR kU kW++[a,b,c,d])=.ok bD (mP o0 o1 o2 o3 o4 o5 o6 o7 o8 o9 kQ kR kU kW++[a,b,c,d,.aA<|EM e,.aA [],.aA [],.aA [],.aA [],.aA [],.aA [],.lst [],.lst [],.aA []]):=by kernel_rfl
def Bn(a:Bool)(l4 off pl:V):Lb:=[(k_data,.ref 15),(qj,.ref 16),(l7,.int<|cond a 2048 34525),(jK,l4),(jE,off),(uT,pl),(e8,.ref 17)]
theorem aio(hl:l.length<=100)(a):bq 18 j4 [.bb l,.int<|cond a 2048 34525,.bb []] (mP o0 o1 o2 o3 o4 o5 o6 o7 o8 o9 kQ kR kU kW)=.ok eS (mP o0 o1 o2 o3 o4 o5 o6 o7 o8 o9 kQ kR kU kW++[.aA<|Bn a (.int<|-1) (.int<|-1)<|.int 0,.bar l,.bar [],eO (.int 0)<|.int 0]):=by refine fE [Dw] ?_;rfl';rw[aim (by exact au (by assumption) (by decide)) ..];exact aM (akX o0 o1 o2 o3 o4 o5 o6 o7 o8 o9 kQ kR kU kW (.aA [(k_data,.ref 15),(qj,.ref 16),(l7,.int<|cond a 2048 34525),(jK,.int<|-1),(jE,.int<|-1),(uT,.int 0)]) (.bar l)<|.bar []) rfl
theorem aip(ok:jO a p aG c l):∃pl:Nat,(pl=0<->c=aq)/\bq 18 Ew [eS] (mP o0 o1 o2 o3 o4 o5 o6 o7 o8 o9 kQ kR kU kW++[.aA<|Bn a (.int<|-1) (.int<|-1)<|.int 0,.bar l,.bar [],eO (.int 0)<|.int 0])=.ok .none (mP o0 o1 o2 o3 o4 o5 o6 o7 o8 o9 kQ kR kU kW++[.aA<|Bn a (.int p.num) (.int<|cond c (-1) aG)<|nV pl,.bar l,.bar [],eO (.int 0)<|.int 0]):=by
 have Y:=ok.hi;have d:=ok.lo;induction a using aS with
 |true=>
  refine yC (ok.f4 rfl) λB M O P R=>fw (afc 15 (p:=p) ok.lo ok.hi ok.lt ok.bg B M O P R (r:=15) (m:=(mP o0 o1 o2 o3 o4 o5 o6 o7 o8 o9 kQ kR kU kW++[.aA<|Bn ae (.int<|-1) (.int<|-1)<|.int 0,.bar l,.bar [],eO (.int 0)<|.int 0])) rfl) λpl b E J=>i12 pl E ?_;rw[rL ..];refine fE [Aq] ?_;rfl';refine aM J ?_;induction c using aS with
  |true=>
   refine iK_f (λh=>by have:=E.mp (by lia);exact ia this) ?_;exact rfl
  |false=>
   refine iK_t (by have:=E.mpr rfl;lia) ?_;exact aJ (jC (r:=15) (l:=l) rfl (by exact au (by assumption) (by decide))) (iK_t (by lia) rfl)
 |false=>
  refine mB (ok.f6 rfl) λS B T V=>?_;subst S;subst V;have J:=afd 14 (p:=p) ok.lo ok.hi B T (r:=15) (m:=(mP o0 o1 o2 o3 o4 o5 o6 o7 o8 o9 kQ kR kU kW++[.aA<|Bn aq (.int<|-1) (.int<|-1)<|.int 0,.bar l,.bar [],eO (.int 0)<|.int 0])) rfl;refine i12 0 ⟨λZ=>rfl,λZ=>rfl⟩ ?_;rw[rL ..];refine fE [D9] ?_;rfl';refine aM J ?_;rfl';exact aJ (jC (r:=15) (l:=l) rfl (by exact au (by assumption) (by decide))) (iK_t (by lia) rfl)
end
theorem an3(h:eC aR (eW aR bN n) e m l=.rt v m')(h2:K (.rt v m')):kB aR (kF aR bN a n) l e m K:=by rw[rU<|rV aR bN a n,h];exact h2
theorem aiq(a:List Nm)(hf:bN x=aa (.fn f))(e)(he:((l++f.eD.drop (f.eD.length-(f.iU-l.length))).map Sl.val++gQ f.locs .un)=e)(hl:(decide<|l.length<=f.iU/\f.iU-l.length<=f.eD.length)=ae)
  (h:kB aR (kF aR bN (λy=>a.contains y) n) f.body e m (qy λr=>r=b)):bq (n+1) x l m=b:=tJ a (K:=λr=>r=b) hf e he hl h
def Sz(xs:mV)(k s:Nat)(h:Hd)(L:Ab):J:=[gJ xs k s,eO (nV L.cB)<|nV L.pri,.lst<|bH L.aL,rX h L,.lst [],.lst [],.aA [],tS h 6]
def mA(xs:mV)(k s:Nat)(h:Hd)(L:Ab)(r:J):J:=mP (gJ xs k s) (eO (nV L.cB)<|nV L.pri) (.lst<|bH L.aL) (rX h L) (.lst []) (.lst []) (.aA []) (tS h 6) (.aA tA) (.aA g6) (.aA gt) (.aA gu) (.aA gm) (.aA gc)++r
def K5(h:Hd):Env:=[.val<|.ref 7,.val<|.ref 1,.val<|.bool h.ay,.val<|.int h.bG.num,.val<|nV h.aG,.val<|.bool h.bx,.val<|.bool h.bare,.val<|nV h.now,.val<|.ref 8,.val<|.ref 13,.val<|.str CW,.val bD,.un]
def akY(a:V):Lb:=[(iQ,.inst j4 14),(tQ,a),(AW,.str zW),(l8,.none),(k_state,.int 1),(xf,.int 0),(Av,.none),(tI,.ref 19),(zX,.ref 20),(rp,.ref 8),(uL,.aA [(du,.fn C1),(e8,.fn Dm),(fu,.fn DH)]),(tz,.ref 28),(Bm,.ref 23),(uV,.ref 24),(Aw,.str DY),(gV,.ref 25),(og,.ref 26),(k_steps,.none),(Ax,.ref 27)]
theorem air(f g h i j k l D m)(n o p q r s t u v w y z A C a b c d)(e):∃x,eC aR (eW aR bN 19) [.val<|.ref 7,.val<|.ref 1,f,g,h,i,j,k,l,D,m,.val bD,.un] (mP n o p q r s t u v w y z A C++[a,b,c,d,.aA<|EM e,.aA [],.aA [],.aA [],.aA [],.aA [],.aA [],.lst [],.lst [],.aA []]) ((Di.body.drop 5).take 2)=
  .nx [.val<|.ref 7,.val<|.ref 1,f,g,h,i,j,k,l,x,m,.val bD,.val<|.str DV] (mP n o p q r s t u v w y z A C++[a,b,c,d,.aA<|akY e,.aA [],.aA [],.aA [],.aA [],.aA [],.aA [],.lst [],.lst [],.aA [],.aA Tu]):=by
 refine⟨.val<|.aA [(lh,.fn k9),(lY,.fn k9),(As,.fn k9),(DV,.fn zE)],?_⟩;kernel_rfl
theorem acY(ok:jO h.ay h.bG h.aG h.bx L.aL):∃pl:Nat,(pl=0<->h.bx=aq)/\bq 19 Dl [.bb L.aL,.int<|cond h.ay 2048 34525] (mA xs k s h L [])=.ok eS (mA xs k s h L [yg {h with place:=pl},.bar L.aL,.bar [],eO (.int 0)<|.int 0]):=by refine bo (aip (gJ xs k s) (eO (nV L.cB)<|nV L.pri) (.lst<|bH L.aL) (rX h L) (.lst []) (.lst []) (.aA []) (tS h 6) (.aA tA) (.aA g6) (.aA gt) (.aA gu) (.aA gm) (.aA gc) ok) λpl B E=>i12 pl B<|fE [j4,Ew] ?_;refine aM (aio _ _ _ _ _ _ _ _ _ _ _ _ _ _ (by have:=ok.hi;exact au (by assumption) (by decide)) h.ay) ?_;exact aM E rfl
theorem afe(a:L.log=[])(b:L.rep=[])(ok:jO h.ay h.bG h.aG h.bx L.aL):∃pl:Nat,(pl=0<->h.bx=aq)/\bq 20 Dh [.ref 7,.ref 1] (Sz xs k s h L)=.ok bD (M ⟨xs,k,s,L.cB,L.pri,{h with place:=pl},L,L,6⟩ []):=by
 refine bo (acY (xs:=xs) (k:=k) (s:=s) ok) λpl d J=>i12 pl d (aiq [Dl,fR] (n:=19) (f:=Di) (by kernel_rfl) [.val<|.ref 7,.val<|.ref 1,.un,.un,.un,.un,.un,.un,.un,.un,.un,.un,.un] rfl rfl (nB 1 [.val<|.ref 7,.val<|.ref 1,.val<|.bool h.ay,.val<|.int h.bG.num,.val<|nV h.aG,.val<|.bool h.bx,.val<|.bool h.bare,.val<|nV h.now,.un,.un,.un,.un,.un] (Sz xs k s h L) (λT B=>?_) ?_))
 ·rfl';exact B
 refine VB 2 (afb _ _ _ _ _ _ (gJ xs k s) (eO (nV L.cB)<|nV L.pri) (.lst<|bH L.aL) (rX h L) (.lst []) (.lst []) (.aA [])<|tS h 6) (nB 1 (K5 h) (mA xs k s h L [yg {h with place:=pl},.bar L.aL,.bar [],eO (.int 0)<|.int 0,.aA<|EM<|nV h.now,.aA [],.aA [],.aA [],.aA [],.aA [],.aA [],.lst [],.lst [],.aA []]) (λT B=>?_) ?_)
 ·have V:∀m,m[2]?=aa (.lst<|bH L.aL)->lq m (.ref 2)=aa (.bb L.aL):=λm e=>Sx e (by have:=ok.hi;exact au (by assumption) (by decide)) ok.lt;have O:=ain (gJ xs k s) (eO (nV L.cB)<|nV L.pri) (.lst<|bH L.aL) (rX h L) (.lst []) (.lst []) (.aA []) (tS h 6) (.aA tA) (.aA g6) (.aA gt) (.aA gu) (.aA gm) (.aA gc) (yg {h with place:=pl}) (.bar L.aL) (.bar []) (eO (.int 0)<|.int 0)<|nV h.now;unfold K5 at B;revert B;induction Y:h.ay using aS with
  |true=>
   intro B;rw[Y] at J O;exact aJ (V _ rfl)<|aM J<|aM O B
  |false=>
   intro B;rw[Y] at J O;exact aJ (V _ rfl)<|aM J<|aM O B
 refine nB 1 (K5 h) (mA xs k s h L [yg {h with place:=pl},.bar L.aL,.bar [],eO (nV L.cB)<|nV L.pri,.aA<|EM<|nV h.now,.aA [],.aA [],.aA [],.aA [],.aA [],.aA [],.lst [],.lst [],.aA []]) (λT B=>?_) ?_
 ·rfl';exact B
 refine bu (air (.val<|.bool h.ay) (.val<|.int h.bG.num) (.val<|nV h.aG) (.val<|.bool h.bx) (.val<|.bool h.bare) (.val<|nV h.now) (.val<|.ref 8) (.val<|.ref 13) (.val<|.str CW) (gJ xs k s) (eO (nV L.cB)<|nV L.pri) (.lst<|bH L.aL) (rX h L) (.lst []) (.lst []) (.aA []) (tS h 6) (.aA tA) (.aA g6) (.aA gt) (.aA gu) (.aA gm) (.aA gc) (yg {h with place:=pl}) (.bar L.aL) (.bar []) (eO (nV L.cB)<|nV L.pri)<|nV h.now) λx c=>VB 2 c ?_;obtain⟨aL,P,E,st,g,R,S⟩:=L;have a:R=[]:=a;have b:S=[]:=b;subst a b;clear c J ok;induction g using aO with
 |none=>
  rfl';kernel_rfl
 |some z=>
  refine an3 (v:=bD) (m':=M ⟨xs,k,s,P,E,{h with place:=pl},⟨aL,P,E,st,aa z,[],[]⟩,⟨aL,P,E,st,aa z,[],[]⟩,6⟩ []) ?_ ?_
  ·kernel_rfl
  ·exact rfl
def oS:List Nm:=[c4,C7,wW,Dh,Df,CX,d8,xh,zJ,zu]
def pV(p:Pr):V:=.int p.num
def gK(X:V)(a:Bool)(b:Int)(p:Pr)(aG:V)(c bare:Bool)(r:Env):Env:=[.val X,.val<|.ref 0,.val<|.ref 1,.val<|.bool a,.val<|.int b,.val<|pV p,.val<|.ref 2,.val aG,.val<|.bool c,.val<|.bool bare]++r
theorem an4(mJ:X.length<=63)(hx:∀v∈X,∃i,v=.int i/\jT i)(a)(ha:mv [] a ag (aa<|.int 63)=aa (.lst X))
  (hK:∀(s mk b)(o)(q)(p),s<65521->mk<2^32->b<2^32->K (.nx [.val<|.lst X,.val<|.ref 0,.val<|.ref 1,.val<|.bool o,.val<|.int q,.val<|pV p,.un,.un,.un,.un,.un,.un,.un,.un,.un,.un,.un,.un,.un,.un,.un] [gJ X 5 s,eO (nV mk)<|nV b])):
  kB aR (kF aR bN (λy=>oS.contains y) 20) (tR.body.take 4) [.val a,.un,.un,.un,.un,.un,.un,.un,.un,.un,.un,.un,.un,.un,.un,.un,.un,.un,.un,.un,.un] [] K:=by
 obtain⟨is,rfl⟩:∃is:List Int,X=is.map .int:=by clear ha mJ hK;induction X with|nil=>exact⟨[],rfl⟩|cons v X r=>refine gl λP B=>?_;refine bo (hx v dE) λi M Z=>?_;subst M;refine bu (r λv t=>hx v<|dT _ t) λis M=>?_;refine B ?_;subst M;exact⟨i::is,rfl⟩
 refine gl λP B=>?_;refine cW is.sum (k:=65521) (by decide) λs w E=>?_;have G:tT (is.map .int) 100 s:=⟨mJ,hx,by decide,E⟩;have nx:=λ(j:Nat)(H:j<100)(m:J)=>Az (k:=j) 19 ⟨mJ,hx,by exact au (by assumption) (by decide),E⟩ m;refine bo (nx 0 (by decide) []) λR I x=>?_;refine bo (nx 1 (by decide) []) λS L z=>?_;refine cW R (k:=2^32) (by decide) λmk A T=>?_;refine cW S (k:=2^32) (by decide) λb C Y=>?_;refine B ?_;refine aJ ha ?_;refine aJ (u:=.int is.sum) ?_ ?_
 ·refine(?_:(intsOf<|is.map .int).map (λl=>V.int l.sum)=_);rw[Pm ..];rfl
 rfl';rw[show bX is.sum 65521=(s:Int) from w];refine aM x ?_;refine aM z ?_;rfl';rw[show bX R (2^uF 32)=(mk:Int) from A,show bX S (2^uF 32)=(b:Int) from C];refine gl λP B=>?_;refine bo (nx 2 (by decide) [eO (nV mk)<|nV b]) λN Q D=>?_;refine bo (nx 3 (by decide) [eO (nV mk)<|nV b]) λd U e=>?_;refine bo (nx 4 (by decide) [eO (nV mk)<|nV b]) λO W f=>?_;refine cW O (k:=5) (by decide) λi h F=>?_;refine B ?_;refine pk (g:=pV) [.dY,.e6,.dY,.e6,.gz] F λp Z n=>?_;refine aM D ?_;refine cG (λc=>?_) λc=>?_
 ·rfl';refine aM e ?_;refine aM f ?_;rfl';rw[show bX O 5=(i:Int) from h];refine aJ (gE n (by exact au (by assumption) (by decide))) ?_;exact hK s mk b ae d p E T Y
 ·rfl';refine aM e ?_;refine aM f ?_;rfl';rw[show bX O 5=(i:Int) from h];refine aJ (gE n (by exact au (by assumption) (by decide))) ?_;exact hK s mk b aq d p E T Y
theorem an5(mJ:X.length<=63)(hx:∀v∈X,∃i,v=.int i/\jT i)(hs:s<65521)(qR:mk<2^32)(Ck:a<2^32)
  (hK:∀(k)(h)(L),k<=20->h.ay=b->h.bG=p->jO b p h.aG h.bx L.aL->h.len=L.aL.length->(h.bare=ae->p=.e6)->L.cB=mk->L.pri=a->L.st<2^32->(∀z,L.ct=aa z->z<2^32)->L.log=[]->L.rep=[]->
   K (.nx (gK (.lst X) b d p (nV h.aG) h.bx h.bare [.val<|.ref 3,.val<|.ref 7,.un,.un,.un,.un,.un,.un,.un,.un,.un])<|Sz X k s h L)):
  kB aR (kF aR bN (λy=>oS.contains y) 20) ((tR.body.drop 4).take 4) [.val<|.lst X,.val<|.ref 0,.val<|.ref 1,.val<|.bool b,.val<|.int d,.val<|pV p,.un,.un,.un,.un,.un,.un,.un,.un,.un,.un,.un,.un,.un,.un,.un] [gJ X 5 s,eO (nV mk)<|nV a] K:=by
 have O:∀k,k<=1000->tT X k s:=λk D=>⟨mJ,hx,by exact bS (by assumption) (by decide),hs⟩;refine ui (acX 18 (xs:=X) (k:=5) (s:=s) (O 9 (by decide)) (eO (nV mk)<|nV a) b p) λB E l c n hc o=>?_;refine bo (Az (k:=5+c) 19 (O _ (by lia)) [eO (nV mk)<|nV a,.lst<|bH l]) λr f1 F=>?_;refine cW r (k:=4) (by decide) λG P H=>?_;refine cW d (k:=4) (by decide) λj t I=>?_;refine cW d (k:=3) (by decide) λq hq Z=>?_;refine cW (cU d 3) (k:=2^32) (by decide) λu w x=>?_;refine FL 2 (λe m=>∃(bare:Bool)(k:Nat),k<=15/\(bare=ae->p=.e6)/\e=gK (.lst X) b d p (nV B) E bare [.un,.un,.un,.un,.un,.un,.un,.un,.un,.un,.un]/\m=[gJ X k s,eO (nV mk)<|nV a,.lst<|bH l]) ?_ ?_
 ·induction p using Pr.casesOn with
  |e6=>
   refine aM o ?_;rfl';refine aM F ?_;rw[show bX r 4=(G:Int) from P];refine cG (λc=>?_) λc=>?_
   ·rfl';exact jP ae _ (by lia) (λZ=>rfl) rfl rfl
   ·rfl';exact jP aq _ (by lia) (λZ=>rfl) rfl rfl
  |_=>
   refine aM o ?_;rfl';exact jP aq _ (by lia) (λh=>(by exact aT h (by decide))) rfl rfl
 intro e m R;refine gx R λbare k D N S T=>?_;refine rwl S ?_;refine rwl T ?_;refine pk (g:=λz:Nat=>nV z) [1,2,4,8] I λst V A=>?_;have Y:st<2^32:=bS (qT (xT (p:=λz=>pG z 8) rfl V)) (by decide);have hlen:∀m,m[2]?=aa (.lst<|bH l)->ma m (.ref 2)=aa (nV l.length):=λm Q=>by
  unfold ma;rw[jd Q];refine(?_:(if (bH l).length<=1000000 then aa (nV (bH l).length) else ag)=_);rw[eV ..,aC (by have:=n.hi;exact au (by assumption) (by decide))]
 refine FL 1 (λe m=>∃J:Option Nat,(∀z,J=aa z->z<2^32)/\e=gK (.lst X) b d p (nV B) E bare [.val<|.ref 3,.un,.un,.un,.un,.un,.un,.un,.un,.un,.un]/\m=[gJ X k s,eO (nV mk)<|nV a,.lst<|bH l,rX ⟨b,p,B,E,bare,0,l.length,0⟩ ⟨l,mk,a,st,J,[],[]⟩]) ?_ ?_
 ·induction b using aS with
  |true=>
   refine aJ (hlen _ rfl) ?_;rfl';rw[show bX d 4=(j:Int) from t];refine aJ (gE A (by exact au (by assumption) (by decide))) ?_;refine cG (λc=>?_) λc=>?_
   ·rfl';exact cu ag (λz h=>(by cases h)) rfl rfl
   ·rfl';rw[show bX (cU d 3) (2^uF 32)=(u:Int) from w];exact cu (aa u) (λz h=>(by cases h;exact x)) rfl rfl
  |false=>
   refine aJ (hlen _ rfl) ?_;rfl';rw[show bX d 4=(j:Int) from t];refine aJ (gE A (by exact au (by assumption) (by decide))) ?_;refine cG (λc=>?_) λc=>?_
   ·rfl';exact cu ag (λz h=>(by cases h)) rfl rfl
   ·rfl';rw[show bX (cU d 3) (2^uF 32)=(u:Int) from w];exact cu (aa u) (λz h=>(by(have U:=bf h;subst U);exact x)) rfl rfl
 intro e m R;refine cA R λJ W S T=>?_;refine rwl S ?_;refine rwl T ?_;refine bo (Az (k:=k) 19 (O _ (by exact au (by assumption) (by decide))) [eO (nV mk)<|nV a,.lst<|bH l,rX ⟨b,p,B,E,bare,0,l.length,0⟩ ⟨l,mk,a,st,J,[],[]⟩,.lst [],.lst [],.aA []]) λC f2 e2=>?_;refine cW C (k:=100000) (by decide) λM f Z=>?_;have jh:=hK (k+1) ⟨b,p,B,E,bare,M,l.length,0⟩ ⟨l,mk,a,st,J,[],[]⟩ (by exact bS (by assumption) (by decide)) rfl rfl n rfl N rfl rfl Y W rfl rfl;refine aM e2 ?_;rfl';rw[show bX C 100000=(M:Int) from f];exact jh
theorem Ri(ok:jO h.ay h.bG h.aG h.bx l)(hl:h.len=l.length)(hb:h.bare=ae->h.bG=.e6):eX h:=by have B:=ok.bg;have E:=ok.lo;have J:=ok.hi;exact⟨⟨by lia,by lia,λh=>(ok.f6 h).1⟩,by lia,by lia,by lia,hb⟩
theorem acZ(ok:jO h.ay h.bG h.aG h.bx l)(hl:h.len=l.length)(hb:h.bare=ae->h.bG=.e6):jO h.ay h.bG h.aG h.bx (ja h l):=by
 have st:=Ri ok hl hb;have e:=HI st hl.symm;have g:=λi (B:i<10)=>OO st hl.symm (i:=i) B;refine⟨by have:=ok.lo;lia,by have:=ok.hi;lia,Ib ok.lt,ok.bg,λh=>?_,λh=>?_⟩
 ·have:=ok.f4 h;rw[g 0 (by decide),g 9 (by decide),g 6 (by decide),g 7 (by decide)];exact this
 ·have:=ok.f6 h;rw[g 0 (by decide),g 6 (by decide)];exact this
theorem akZ(ok:jO h.ay h.bG h.aG h.bx l):uy h l:=by intro B;have E:=ok.bg;refine fW (ok.f4 B) λe J Z=>?_;rw[e];lia
def slots(p:Pr)(h:Bool)(a b c d e f g:Sl):Env:=[.val<|.ref 3,.val<|.ref 7,.val bD,.val<|.lst<|fv h p,a,b,c,d,e,f,g]
theorem an8(ok:jO h.ay h.bG h.aG h.bx L.aL)(hl:h.len=L.aL.length)(hb:h.bare=ae->h.bG=.e6)(h1:L.cB<2^32)(h2:L.pri<2^32)(d:L.st<2^32)(h4:∀z,L.ct=aa z->z<2^32)(b:L.log=[])(c:L.rep=[])
  (hK:∀(h')(a),h'.ay=h.ay->h'.bG=h.bG->h'.aG=h.aG->h'.bx=h.bx->h'.bare=h.bare->eX h'->dO h' 0 a->
   K (.nx (gK (.lst X) h.ay e h.bG (nV h.aG) h.bx h.bare<|slots h.bG h.ay .un .un .un .un .un .un .un)<|M ⟨X,k,s,a.cB,a.pri,h',a,a,6⟩ [])):
  kB aR (kF aR bN (λy=>oS.contains y) 20) ((tR.body.drop 8).take 2) (gK (.lst X) h.ay e h.bG (nV h.aG) h.bx h.bare [.val<|.ref 3,.val<|.ref 7,.un,.un,.un,.un,.un,.un,.un,.un,.un]) (Sz X k s h L) K:=by
 have st:=Ri ok hl hb;have O:=P9 18 (m:=Sz X k s h L) (r:=2) (h:=h) (l:=L.aL) rfl st.ok ok.lt (by have:=ok.hi;exact au (by assumption) (by decide)) (by have:=st.aG;lia);have J:=acZ ok hl hb;let a:Ab:={L with aL:=ja h L.aL};refine bo (afe (xs:=X) (k:=k) (s:=s) (h:=h) (L:=a) b c J) λpl V P=>?_;have R:=afa 19 h.ay h.bG<|M ⟨X,k,s,a.cB,a.pri,{h with place:=pl},a,a,6⟩ [];have B:eX {h with place:=pl}:=⟨⟨st.ok.aG,st.ok.jL,st.ok.six⟩,st.len,st.aG,st.FO,st.bare⟩;have S:dO {h with place:=pl} 0 a:=by
  refine⟨HI st hl.symm,Ib ok.lt,?_,akZ J,h1,h2,d,h4,by rw[show a.log=[] from b];exact dR _,by rw[show a.rep=[] from c];exact dR _,?_,?_⟩
  ·have r:=Ow st hl.symm (p:=L.aL);exact⟨r.r4,r.rT⟩
  ·rw[show a.log=[] from b];intro v E;cases E
  ·rw[show a.rep=[] from c];intro v E;cases E
 have T:=hK {h with place:=pl} a rfl rfl rfl rfl rfl B S;refine aM O ?_;refine aM P ?_;refine aM R ?_;exact T
def yi:List S:=match tR.body.drop 10 with|[.dN _ _ b,_]=>b|_=>[]
section
variable{X:V}{ay bx bare:Bool}{dJ:Int}{p:Pr}{aG:V}{K:KF}
theorem amW(hp:jU σ (k+50))(ok:jM σ)
  (hK:∀(ss:List Sm)(g':J)(j:Nat),ss.length<=4->(∀s∈ss,s.Ok/\s.Good)->j<=50->K (.nx (gK X ay dJ p aG bx bare<|slots p ay a (.val<|.tup<|ss.map Sm.toV) c d e f y)<|M (σ.dr j) g')):
  kB aR (kF aR bN (λy=>oS.contains y) 20) (yi.take 1) (gK X ay dJ p aG bx bare<|slots p ay a b c d e f y) (M σ g) K:=by
 refine ls 19 hp g λr H l=>?_;refine cW r (k:=4) (by decide) λj o I=>?_;refine aM l ?_;rfl';rw[show 1+bX r 4=((1+j:Nat):Int) by rw[show bX r 4=(j:Int) from o];lia];have T:=qA (n:=1+j) (by lia);refine Ah (Ai (T _) rfl (by rw[bJ ..,iL];lia)) ?_;refine acH (kg T rfl) (λv m K h=>h) (λi B m=>∃(ss:List Sm)(g':J)(q:Nat),B=ss.map Sm.toV/\ss.length=i/\(∀s∈ss,s.Ok/\s.Good)/\q<=1+9*i/\m=M (σ.dr q) g') ?_ ?_ _ 0 _ _ (fQ _) (sd ([]) g 1 rfl rfl (λs h=>(by cases h)) (by decide) rfl)
 ·intro i v B m t E;refine K8 E λss g' q O P R V S=>?_;refine rwl O ?_;refine rwl S ?_;intro K hK;refine m8 t λL E=>?_;refine rwl E ?_;have w:jU (σ.dr q) (k+4+9):=by have:=(hp.dr (j:=q) (by lia));exact⟨this.len,this.wj,by have:=this.k;lia,this.s⟩
  refine jQ (aij 14 (σ:=σ.dr q) w (ok.dr q) g' ay p) λv x A E N Q Y=>?_;refine cA E λs C D O=>?_;subst O;rw[Uz] at Y;refine aM Y ?_;exact hK _ _ (sd (ss++[s]) x (q+A) (by rw[jo];rfl) (by rw[d6,P];rfl) (λz F=>(List.mem_append.mp F).elim (R z) λh=>by rw[GL.mp h];exact⟨C,D⟩) (by lia) rfl)
 ·intro B m E;refine K8 E λss g' q O P R V S=>?_;refine rwl O ?_;refine rwl S ?_;rw[bJ,iL] at P V;have G:=hK ss g' q (by lia) R (by lia);refine aJ (u:=.tup<|ss.map Sm.toV) (aC (by rw[bJ ..];lia)) ?_;exact G
noncomputable def Sg.ij(σ:Sg)(k:Nat):Sg:={σ with kc:=k}
theorem amX(hl:ss.length<=4)
  (hK:∀(g'),hZ ag (base σ) ss g.length (g.length+1) (cellAt (g.length+2) ss) g' (bT ss 0)->
   K (.nx (gK X ay dJ p aG bx bare<|slots p ay (.val<|nV i) (.val<|.tup<|ss.map Sm.toV) (.val<|.inst d8<|base σ+g.length) (.val .none) (.val .none) f y)<|M (σ.ij<|base σ+g'.length)<|g'++[.bW []])):
  kB aR (kF aR bN (λy=>oS.contains y) 20) ((yi.drop 1).take 2) (gK X ay dJ p aG bx bare<|slots p ay (.val<|nV i) (.val<|.tup<|ss.map Sm.toV) c d e f y) (M σ g) K:=by
 refine cA (aie 16 (σ:=σ) g (ss:=ss) (by exact au (by assumption) (by decide)) i) λg' P E J=>?_;have B:=hK g' J;refine aM E ?_;have e:∀m,m=M σ g'++[.bW []]->m.set 7 (tS σ.h (M σ g').length)=M (σ.ij<|base σ+g'.length) (g'++[.bW []]):=by intro m O;refine rwl O ?_;rw[jG ..,vj ..];rfl
 rw[<-e _ rfl] at B;exact B
end
theorem aff{s:Sm}{ce:Ce}(h:cellOf s=aa ce):ce.toV=s.toV:=by induction s using Sm.casesOn<;>first|((have B:=bf h;subst B);rfl)|cases h
theorem afg{σ:Sg}{g:J}{x:O}:(M σ<|g++[x])[base σ+g.length]?=aa x:=by rw[oI ..,nS<|dR _,k7 ..];rfl
theorem afh{σ:Sg}{g:J}{x y:O}:(M σ<|g++[x]).set (base σ+g.length) y=M σ (g++[y]):=by rw[A0 ..,CU _ _<|dR _,k7 ..];rfl
theorem Ig(l:List Sm):∀p:Nat,(bT l p).length<=l.length:=by induction l with|nil=>intro p;exact dR _|cons z l B=>intro p;rw[rz ..,d6,jZ];have:=B<|p+1;induction cellOf z using aO<;>simp only[jZ,G9]<;>lia
theorem ais{h:Hd}(st:eX h){k:Nat}{y:Ab×Cs}(x:dO h k y.1){s:Sm}(a:s.Ok)(b:s.Good)(p:Nat):
  dO h (k+1) (cX h s p y).2.1/\(cX h s p y).2.1.ct.isSome=y.1.ct.isSome/\(cX h s p y).2.2.map (·.1)=y.2.map (·.1):=by
 unfold cX;induction s.iT using aS with|false=>exact cv (Ss st x a b) Su rfl|true=>induction y.2.at p using aO with|none=>exact cv (x.mono (by lia)) rfl rfl|some B=>exact cv (x.mono (by lia)) rfl (Rc _ _ _)
theorem EN{h:Hd}(st:eX h):∀{ss:List Sm}{p k:Nat}{y:Ab×Cs},(∀s∈ss,s.Ok/\s.Good)->dO h k y.1->
  dO h (k+ss.length) (dD h ss p y).2.1/\(dD h ss p y).2.1.ct.isSome=y.1.ct.isSome/\(dD h ss p y).2.2.map (·.1)=y.2.map (·.1)
 |[],p,k,y,B,x=>cv x rfl rfl|s::r,p,k,y,B,x=>by
  refine aW (B s dE) λO P=>?_;refine fW (ais st x O P p) λE J M=>?_;by_cases c:(cX h s p y).1=.none
  ·rw[Dr c];refine fW (EN st (p:=p+1) (λz R=>B z<|dT _ R) E) λS T q3=>?_;refine cv ?_ (T.trans J)<|q3.trans M;rw[jZ,show k+(r.length+1)=k+1+r.length by lia];exact S
  ·rw[Ds c];exact cv (E.mono (by rw[jZ];lia)) J M
theorem Pp:∀(ss:List Sm)(p:Nat),rQ ((bT ss p).map λq=>(q.1:Int))=ae|[],_=>rfl|s::r,p=>by have B:=Pp r<|p+1;rw[rz ..];induction cellOf s using aO with|none=>exact B|some M=>have E:∀q∈bT r (p+1),p+1<=q.1:=λq J=>(tn q J).1;generalize bT r (p+1)=l at*;induction l using dz with|nil=>rfl|cons q l=>have:=E q dE;refine(?_:(decide ((p:Int)<(q.1:Int))&&_)=ae);rw[decide_eq_true (by lia)];exact B
theorem afi{h:Hd}(st:eX h){ss:List Sm}{k:Nat}{a:Ab}(hs:∀s∈ss,s.Ok/\s.Good)(x:dO h k a):rQ ((dD h ss 0 (a,bT ss 0)).2.2.map λq=>(q.1:Int))=ae:=by
 have e:=(EN st (ss:=ss) (p:=0) (y:=(a,bT ss 0)) hs x).2.2;have r:=Pp ss 0;have f:∀B:Cs,(B.map λq=>(q.1:Int))=(B.map (·.1)).map λn:Nat=>(n:Int):=λB=>by rw[iM];rfl
 rw[f ..] at r⊢;rw[e];exact r
theorem ak0{σ:Sg}{g:J}{p:V×Ab}{r:R V}(h:Out σ g p r):p.1=.none\/∃w x,p.1=.tup [.str w,.str x]:=by cases h with|nx _ e _=>exact .inl e|rt _ _ e=>exact .inr (gM _ _ e)|ex _ e=>exact .inr (gM _ _ e)
theorem ac0{h:Hd}(st:eX h){k:Nat}{y:Ab×Cs}(x:dO h k y.1)(hk:k<900){s:Sm}(a:s.Ok)(b:s.Good)(p:Nat):(cX h s p y).1=.none\/∃w z,(cX h s p y).1=.tup [.str w,.str z]:=by
 unfold cX;induction E:s.iT using aS with
 |true=>
  induction y.2.at p using aO with
  |none=>exact .inl rfl
  |some J=>exact(Sw h.len J).elim .inl λe=>.inr<|gM _ _ e
 |false=>
  by_cases B:s=.dup
  ·subst B;exact .inr<|gM _ _ rfl
  ·exact ak0<|Sv 0 (σ:=⟨[],0,0,0,0,h,y.1,y.1,0⟩) [] st x hk .none .none a b E B
theorem amY{h:Hd}(st:eX h){n:Nat}{a:Ab}(x:dO h n a)(hn:n<900){σ:Sg}(hh:σ.h=h)(hp:σ.L=a):Vs σ:=by subst hh hp;refine⟨⟨st.ok,st.len,st.aG,x.aL,x.lt⟩,bS x.log (by exact au (by assumption) (by decide)),bS x.rep (by exact au (by assumption) (by decide)),λf B k e=>?_⟩;refine cL (D1 st x e) (uG (by decide) ?_);induction f using Fd.casesOn with|o f=>have:=lF.many B;refine(?_:8*f.many<=128);lia|_=>decide
theorem ait(n:Nat){σ:Sg}{g:J}(ho:σ.L.aL.length=σ.h.len)(hl:σ.h.len<=100){s:Sm}{ce:Ce}{p:Nat}{c:Cs}(hk:σ.kc=base σ+g.length)(hm:s.iT=ae)(hn:(c.map (·.1)).Nodup)(d:c.length<=100)(hp:c.at p=aa ce):
  bq (n+2) xh [.ref 7,nV p,s.toV] (M σ<|g++[.bW c.cf])=.ok (ce.says σ.h.len) (M σ<|g++[.bW (c.upd p<|Ce.next σ.h.len).cf]):=by
 have h:=acT n (σ:=σ) (g++[.bW c.cf]) ho hl (ce:=ce) (jc:=g.length) (p:=p) (cl:=c.cf) hk (by rw[nS<|dR _,k7 ..];rfl) (by unfold Cs.cf;rw[bJ ..];exact d)<|TR hp;rw[Sp (f:=Ce.next σ.h.len) rfl hn hp,CU _ _<|dR _,k7] at h;induction s using Sm.casesOn with
 |cnt a b=>
  refine enterQ [zy] ?_;refine aM h ?_;exact rfl
 |dZ o a b=>
  refine enterQ [zy] ?_;refine aM h ?_;exact rfl
 |_=>exact dG hm
section
variable{X:V}{ay bx bare:Bool}{dJ:Int}{p:Pr}{aG:V}{K:KF}
theorem amZ{σ:Sg}{g:J}{ss:List Sm}(hl:ss.length<=4)(hk:σ.kc=base σ+g.length){a c d e f y:Sl}
  (hK:∀y,K<|.nx (gK X ay dJ p aG bx bare<|slots p ay a (.val<|.tup<|ss.map Sm.toV) c d e y f)<|M σ<|g++[.bW (bT ss 0).cf]):
  kB aR (kF aR bN (λy=>oS.contains y) 20) ((yi.drop 3).take 1) (gK X ay dJ p aG bx bare<|slots p ay a (.val<|.tup<|ss.map Sm.toV) c d e y f) (M σ<|g++[.bW []]) K:=by
 have j:=qA (n:=ss.length) (by exact bS (by assumption) (by decide));refine aJ (u:=nV ss.length) ?_ ?_
 ·refine(?_:(if (ss.map Sm.toV).length<=1000000 then aa (nV (ss.map Sm.toV).length) else ag)=_);rw[aC (by rw[bJ ..];exact au (by assumption) (by decide)),bJ ..]
 refine fj (j _) ?_;refine j6 (kg j rfl) (λi y=>gK X ay dJ p aG bx bare<|slots p ay a (.val<|.tup<|ss.map Sm.toV) c d e y f) (λi y=>M σ<|g++[.bW (bT (ss.take i) 0).cf]) (λZ Z=>True) ?_ ?_ y trivial rfl rfl
 ·intro i v y m Z K hK;refine m8 m λo S=>?_;subst S;have T:=cT o;generalize ss[i]=s at T;have P:(ss.map Sm.toV)[i]?=aa s.toV:=by rw[gB,T];rfl
  have R:=HK T;have V:=Ig (ss.take i) 0;rw[gf] at V;have new:∀B,cellOf s=aa B->mj (i:Int) s.toV (bT (ss.take i) 0).cf=(bT (ss.take<|i+1) 0).cf:=by
   intro B E;rw[E] at R;rw[R,IX,<-aff E]
   ·unfold Cs.cf;rw[jo];rfl
   ·intro q r;refine j8 r λt w S=>?_;subst S;have:=(tn t w).2;rw[gf] at this;lia
  have put:∀B,cellOf s=aa B->uS (M σ<|g++[.bW (bT (ss.take i) 0).cf]) (.ref σ.kc) (nV i) s.toV=aa (M σ<|g++[.bW (bT (ss.take<|i+1) 0).cf]):=by intro B E;have k:=afg (σ:=σ) (g:=g) (x:=.bW (bT (ss.take i) 0).cf);rw[<-hk] at k;rw[Ef k (by unfold Cs.cf;rw[bJ ..];lia) ..,new B E,hk,afh]
  have skip:s.iT=aq->bT (ss.take<|i+1) 0=bT (ss.take i) 0:=by intro O;rw[<-IW] at O;induction E:cellOf s using aO with|none=>rw[E] at R;rw[R,gC ..]|some B=>rw[E] at O;exact ia O
  have l:s.iT=ae->∃B,cellOf s=aa B:=by intro O;rw[<-IW] at O;exact Option.isSome_iff_exists.mp O
  refine aJ (gE P (by lia)) ?_;refine aJ (JH _ s) ?_;refine FQ (λY=>?_) λY=>?_
  ·refine bu (l<|(Ji s).mp<|.inl Y) λB E=>?_;refine aJ (gE P (by lia)) ?_;refine dQ (put B E) ?_;exact hK (.val<|nV i) trivial
  refine aJ (gE P (by lia)) ?_;refine aJ (JH _ s) ?_;refine FQ (λb=>?_) λb=>?_
  ·refine bu (l<|(Ji s).mp<|.inr b) λB E=>?_;refine aJ (gE P (by lia)) ?_;refine dQ (put B E) ?_;exact hK (.val<|nV i) trivial
  have O:s.iT=aq:=by induction O:s.iT using aS with|false=>rfl|true=>exact((Ji s).mpr O).elim (λh=>aT h Y) λh=>aT h b
  exact rws (skip O)<|hK (.val<|nV i) trivial
 ·intro y Z;have hk:=hK y;rw[bJ ..,iL,lR];exact hk
theorem am0{σ:Sg}{g:J}{ss:List Sm}(hl:ss.length<=4)(hk:σ.kc=base σ+g.length)(st:eX σ.h){k:Nat}(x:dO σ.h k σ.P)(N:k<800)(Q:σ.L=σ.P)(C:∀s∈ss,s.Ok/\s.Good){a c e f y:Sl}
  (hK:∀y,K<|.nx (gK X ay dJ p aG bx bare<|slots p ay a (.val<|.tup<|ss.map Sm.toV) c (.val (dD σ.h ss 0 (σ.P,bT ss 0)).1) e y f)<|M (σ.cf (dD σ.h ss 0 (σ.P,bT ss 0)).2.1)<|g++[.bW (dD σ.h ss 0 (σ.P,bT ss 0)).2.2.cf]):
  kB aR (kF aR bN (λy=>oS.contains y) 20) ((yi.drop 4).take 1) (gK X ay dJ p aG bx bare<|slots p ay a (.val<|.tup<|ss.map Sm.toV) c (.val .none) e y f) (M σ<|g++[.bW (bT ss 0).cf]) K:=by
 have D:=qA (n:=ss.length) (by exact bS (by assumption) (by decide));refine aJ (u:=nV ss.length) ?_ ?_
 ·refine(?_:(if (ss.map Sm.toV).length<=1000000 then aa (nV (ss.map Sm.toV).length) else ag)=_);rw[aC (by rw[bJ ..];exact au (by assumption) (by decide)),bJ ..]
 refine fj (D _) ?_;refine j6 (kg D rfl) (λi (y:(V×(Ab×Cs))×Sl)=>gK X ay dJ p aG bx bare<|slots p ay a (.val<|.tup<|ss.map Sm.toV) c (.val y.1.1) e y.2 f) (λi y=>M (σ.cf y.1.2.1)<|g++[O.bW y.1.2.2.cf]) (λi y=>dD σ.h (ss.take i) 0 (σ.P,bT ss 0)=y.1/\(y.1.1=.none\/∃w x,y.1.1=.tup [.str w,.str x])) ?_ ?_ ((.none,(σ.P,bT ss 0)),y) ⟨rfl,.inl rfl⟩ rfl (aw (λτ=>M τ<|g++[O.bW (bT ss 0).cf])<|Eq.trans (b:=σ.cf σ.L) rfl<|aw σ.cf Q)
 ·intro i v U W l K hK;refine aW l λR B=>?_;obtain⟨⟨F,y⟩,z⟩:=U;dsimp only at R B;refine m8 W λZ l=>?_;refine rwl l ?_;have T:=cT Z;generalize ss[i]=s at T;have ik:(ss.map Sm.toV)[i]?=aa s.toV:=by rw[gB,T];rfl
  refine aW (C s<|jW T) λG sg=>?_;refine aW (Rb (h:=σ.h) (x:=(σ.P,bT ss 0)) T) λY d=>?_;rw[R] at Y d;have H:=EN st (ss:=ss.take i) (p:=0) (y:=(σ.P,bT ss 0)) (λs h=>C s<|k8 h) x;rw[R] at H;refine fW H λm q2 j=>?_;have jh:k+(ss.take i).length<810:=by rw[gf];lia
  rcases B with B|⟨w,I,B⟩
  ·have B:F=.none:=B;subst B;have Y:=Y rfl;have says:=ac0 st m (by exact au (by assumption) (by decide)) G sg i;have call:bq 20 xh [.ref 7,nV i,s.toV] (M (σ.cf y.1)<|g++[.bW y.2.cf])=.ok (cX σ.h s i y).1 (M (σ.cf (cX σ.h s i y).2.1)<|g++[.bW (cX σ.h s i y).2.2.cf]):=by
    unfold cX;induction o:s.iT using aS with|false=>exact akG 14 (σ:=σ.cf y.1) (g++[.bW y.2.cf]) (amY st m (by exact au (by assumption) (by decide)) rfl rfl) (nV i) G o|true=>
     refine bu (Rg T o) λr S=>?_;have S:∃r,y.2.at i=aa r:=by have E:i∈(bT ss 0).map (·.1):=zq (f:=(·.1))<|JF S;have E:i∈y.2.map (·.1):=rwl j E;refine j8 E λq hq t=>?_;have A:(y.2.map (·.1)).Nodup:=rwl j<|zY ss 0;exact⟨q.2,at_of A (by rw[<-t];exact hq)⟩
     refine bu S λr S=>?_;have A:(y.2.map (·.1)).Nodup:=rwl j<|zY ss 0;have hlen:y.2.length<=100:=by have E:=aw pJ j;rw[bJ,bJ] at E;have h2:=Ig ss 0;refine(?_:y.2.length<=100);have E:y.2.length=(bT ss 0).length:=E;lia
     rw[S];exact ait 18 (σ:=σ.cf y.1) m.aL st.len hk o A hlen S
   refine aJ (gE ik (by lia)) ?_;refine aM call ?_;exact hK (cX σ.h s i y,.val<|nV i) ⟨Y,says⟩
  ·have B:F=.tup [.str w,.str I]:=B;subst B;have d:=d (by intro h;cases h);exact hK ((.tup [.str w,.str I],y),.val<|nV i) ⟨d,.inr<|gM _ _ rfl⟩
 ·intro y h;have R:=h.1;rw[bJ,iL,lR] at R;exact rws R<|hK y.2
end
theorem abC(x:hZ ag ah ss a b at_ g c)(o):hZ (aa (g.length,o)) ah ss a b at_ (g++[o]) c:=by
 obtain⟨B,E,J,M,O,P,R,_⟩:=x.grow<|.app g [o];refine⟨B,E,J,M,O,P,R,λz S=>?_⟩;cases S
 refine⟨by rw[nS<|dR _,k7 ..];rfl,λq T=>?_⟩;have:=(List.getElem?_eq_some_iff.mp<|x.each q T).1;exact ju this
structure FR(h:Hd)(i:Nat)(σ:Sg):Prop where
 hd:σ.h=h
 ok:dO h (5*i) σ.P
 eq:σ.L=σ.P
 Cj:jU σ (500-100*i)
section
variable{X:V}{ay bx bare:Bool}{dJ:Int}{p:Pr}{aG:V}{K:KF}
theorem am1(hl:ss.length<=4)(hk:σ.kc=base σ+g.length)(st:eX σ.h)(x:dO σ.h k σ.P)(t:k<700)(l:∀s∈ss,s.Ok/\s.Good)(hh:hZ ag (base σ) ss f m at_ g (bT ss 0))
  (hK:∀y z g' b c d (i:Sg),i.h=σ.h->dO σ.h (k+ss.length) i.P->i.L=i.P->(∀j,jU σ j->jU i j)->K (.nx (gK X ay dJ p aG bx bare<|slots p ay a (.val<|.tup<|ss.map Sm.toV) b c d y z)<|M i g')):
  kB aR (kF aR bN (λy=>oS.contains y) 20) (yi.drop 5) (gK X ay dJ p aG bx bare<|slots p ay a (.val<|.tup<|ss.map Sm.toV) (.val<|.inst d8<|base σ+f) (.val (dD σ.h ss 0 (σ.P,bT ss 0)).1) w y z) (M (σ.cf (dD σ.h ss 0 (σ.P,bT ss 0)).2.1)<|g++[.bW (dD σ.h ss 0 (σ.P,bT ss 0)).2.2.cf]) K:=by
 refine fW (EN st (ss:=ss) (p:=0) (y:=(σ.P,bT ss 0)) l x) λq u C=>?_;have D:=afi st l x;generalize F:dD σ.h ss 0 (σ.P,bT ss 0)=r at*;obtain⟨v,A,B⟩:=r;have S:hZ (aa (g.length,O.bW B.cf)) (base<|σ.cf A) ss f m at_ (g++[.bW B.cf]) (bT ss 0):=abC hh _;have T:=aib 7 (σ:=σ.cf A) (g++[.bW B.cf]) st x (by exact au (by assumption) (by decide)) l (by exact au (by assumption) (by decide)) S;have G:dD (σ.cf A).h ss 0 ((σ.cf A).P,bT ss 0)=(v,A,B):=F;rw[G] at T;have V:=Rd (σ:=σ.cf A) u;have H:B.length<=8:=by
  have Y:=aw pJ C;rw[bJ,bJ] at Y;have I:=Ig ss 0;have Y:=Y;lia
 have n:∀J,hZ (aa (g.length,O.bW B.cf)) (base<|σ.cf A) ss f m at_ J B->bq 20 zu [bD,.ref 7,.ref 1,.inst d8<|base σ+f] (M ((σ.cf A).bD A) J)=.ok (.bool ae) (M ((σ.cf A).bD A).met J):=by
  intro J E;have R:=(E.keep _ rfl).1;have o:hZ (aa (g.length,O.bW B.cf)) (base<|(σ.cf A).bD A) ss f m at_ J B:=by rw[V];exact E
  have e:=ae9 17 (σ:=(σ.cf A).bD A) (g:=J) st.len q rfl o (jc:=g.length) (by rw[V];exact hk) R D H;rw[V] at e;exact e
 have fin:∀y z g' b c d,K (.nx (gK X ay dJ p aG bx bare<|slots p ay a (.val<|.tup<|ss.map Sm.toV) b c d y z)<|M ((σ.cf A).bD A).met g'):=λy z g' b c d=>hK y z g' b c d ((σ.cf A).bD A).met rfl q rfl λj h=>h;generalize R:bq 20 zJ [bD,.inst d8<|base (σ.cf A)+f] (M (σ.cf A)<|g++[.bW B.cf])=r at T;cases T with
 |nx E e=>
  have e:=e;refine rwl e ?_;refine aM R ?_;refine aM (n _ E) ?_;exact fin _ _ _ _ _ _
 |rt E e=>
  have e:=e;refine rwl e ?_;refine aM R ?_;rfl';dsimp only;repeat rw[beq_self_eq_true ..]
  refine aM (n _ E) ?_;exact fin _ _ _ _ _ _
 |ex E e=>
  have e:=e;refine rwl e ?_;refine aM R ?_;rfl';dsimp only;repeat rw[beq_self_eq_true ..]
  refine aM (n _ E) ?_;exact fin _ _ _ _ _ _
theorem aiu(st:eX h)(hi:i<3)(x:FR h i σ)
  (hK:∀a g' b c d e f y,FR h (i+1) a->K (.nx (gK X ay dJ p aG bx bare<|slots p ay (.val<|nV i) b c d e f y)<|M a g')):
  kB aR (kF aR bN (λy=>oS.contains y) 20) yi (gK X ay dJ p aG bx bare<|slots p ay (.val<|nV i) b c d e f y) (M σ g) K:=by
 obtain⟨S,E,O,B⟩:=x;subst S;have T:jM σ:=⟨st.ok,st.len,st.aG,by rw[O];exact E.aL,by rw[O];exact E.lt⟩;have V:jU σ (150+50):=⟨B.len,B.wj,by have:=B.k;lia,B.s⟩;refine iD 1 (amW V T λq r j J R t=>iD 2 (amX J λP Y=>?_));exact iD 1 (amZ (σ:=(σ.dr j).ij<|base (σ.dr j)+P.length) J rfl λz=>iD 1 (am0 (σ:=(σ.dr j).ij<|base (σ.dr j)+P.length) J rfl st E (by lia) O R λz=>am1 (σ:=(σ.dr j).ij<|base (σ.dr j)+P.length) J rfl st E (by lia) R Y
  λy z g' b c d a l m n o=>hK a g' _ b c d y z ⟨l,m.mono (by lia),n,o _ ⟨B.len,B.wj,by have:=B.k;refine(?_:σ.at_+j+_<_);lia,B.s⟩⟩))
end
theorem ak1(a:List Nm)(e)(he:((l++f.eD.drop (f.eD.length-(f.iU-l.length))).map Sl.val++gQ f.locs .un)=e)(hl:(decide<|l.length<=f.iU/\f.iU-l.length<=f.eD.length)=ae)
  (h:kB aR (kF aR bN (λy=>a.contains y) n) f.body e m (qy K)):K (hH aR (eW aR bN n) f l m):=by
 rw[rU<|rV aR bN _ n] at h;unfold hH;rw[aC<|of_decide_eq_true hl,he];revert h;induction eC aR (eW aR bN n) e m f.body using Fl.casesOn<;>exact λh=>h
theorem am2(h:X.length<=63):mv [] (.lst X) ag (aa<|.int 63)=aa (.lst X):=by refine xK (lo':=ag) (hi':=aa 63) rfl (gw (k:=63) (by decide)) ?_;refine(?_:(if X.length<=1000000 then aa (V.lst<|cut X ag<|aa 63) else ag)=_);rw[aC (by exact au (by assumption) (by decide))];unfold cut;rw[Option.getD_some ..,Option.getD_none,MQ,sQ h]
section
variable{X:V}{ay bx bare:Bool}{dJ:Int}{p:Pr}{aG:V}
theorem an9(st:eX h)(inv:FR h 0 σ):kB aR (kF aR bN (λy=>oS.contains y) 20) (tR.body.drop 10) (gK X ay dJ p aG bx bare<|slots p ay .un .un .un .un .un .un .un) (M σ []) (qy λr=>∃m,r=.ok (.bool ae) m):=by
 have B:=qA (n:=3) (by lia);refine fj (B _) ?_;refine j6 (kg B rfl) (λi (x:Sg×J×Sl×Sl×Sl×Sl×Sl×Sl×Sl)=>gK X ay dJ p aG bx bare<|slots p ay x.2.2.1 x.2.2.2.1 x.2.2.2.2.1 x.2.2.2.2.2.1 x.2.2.2.2.2.2.1 x.2.2.2.2.2.2.2.1 x.2.2.2.2.2.2.2.2) (λi x=>M x.1 x.2.1) (λi x=>FR h i x.1) ?_ ?_ (σ,[],.un,.un,.un,.un,.un,.un,.un) inv rfl rfl
 ·intro i v x E inv K hK;refine m8 E λO P=>?_;refine rwl P ?_;exact aiu st O inv λR S b c d e f y inv=>hK (R,S,.val<|nV i,b,c,d,e,f,y) inv
 ·exact λx Z=>⟨_,rfl⟩
end
theorem pl2:Wp:=by
 intro xs mJ B;have mJ:(xs.map V.int).length<=63:=by rwa [bJ ..]
 have B:∀v∈xs.map V.int,∃i,v=.int i/\jT i:=by intro v O;refine j8 O λi P R=>?_;subst R;exact i12 i rfl (decide_eq_true (d7 (B i P) (by decide)))
 refine ak1 oS (K:=λr=>∃m,r=.ok (.bool ae) m) (f:=tR) [.val<|.lst<|xs.map .int,.un,.un,.un,.un,.un,.un,.un,.un,.un,.un,.un,.un,.un,.un,.un,.un,.un,.un,.un,.un] rfl rfl ?_;refine iD 4 (an4 mJ B _ (am2 mJ) λs mk o q t p E J M=>iD 4 (an5 mJ B E J M λk h L u S T Y a b c d e g j l=>?_));subst S T c d;exact iD 2 (an8 Y a b J M e g j l λw x Z Z Z Z Z st n=>an9 st ⟨rfl,n,rfl,⟨mJ,B,by refine(?_:k+_<_);lia,E⟩⟩)
end
end
end Mine.Internal
open PySem PySem.W PyProof.Rows
theorem PySem.Challenge.cw_pq1116_01_holds : PySem.Challenge.rw_pq1116_01.Holds :=
 Mine.Internal.apK (Mine.Internal.apN Mine.Internal.pl2)
