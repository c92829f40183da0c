import PyProof.Rows.All
import Wide.All
import OpenK.AllK
import Wide.FinOn
import PySem.Challenge.RW_pq0981_01
set_option Elab.async false
set_option linter.all false
set_option maxRecDepth 1000000
set_option maxHeartbeats 0
set_option genInjectivity false
set_option genSizeOf false
set_option bootstrap.genMatcherCode false
open And renaming intro->CK
open Array renaming length_toList->bC,mk->lW,getElem?_eq_some_iff->lX,getElem?_eq_getElem->mA,toList_push->mE,getElem?_toList->pB,toList_append->qX,toList_setIfInBounds->yc,getElem?_eq_none_iff->yd
open Bool renaming casesOn->ax,false_ne_true->ay,and_eq_true->bY,eq_iff_iff->cT,eq_false_iff->dX,false_eq_true->ey,or_false->fQ,or_eq_true->gO,true_and->gQ,false_and->hZ,or_eq_true_iff->iO,and_false->jL,false_or->mZ,and_true->m7,and_eq_true_iff->qy,not_true->Ax
open Decidable renaming byContradiction->fg
open Eq renaming trans->UZ
open False renaming elim->dV
open ForInStep renaming yield->fh
open Int renaming natCast_nonneg->bJ,toNat_natCast->cI,ofNat_lt->dn,fdiv_eq_ediv_of_nonneg->fk,eq_ofNat_of_zero_le->gn,ofNat_inj->jf,not_lt->pq,add_sub_cancel->tG,ofNat_le->uA,natCast_pow->yb,pow_nonneg->Ak,fdiv->Al,ofNat_sub->Cw,toNat_of_nonneg->I0,not_le->MC,lt_of_lt_of_le->MD,add_right_comm->MF,natCast_pos->RB,ediv_nonneg->RC,neg_le_neg->Un,lt_irrefl->UY,lt_trans->X_,le_trans->Ya,ediv_one->Yb,add_comm->Yc,sub_neg->Y_,one_mul->Za,neg_sub->Zb,mul_one->Zc
open Int.ofNat renaming inj->pX
open List renaming range->ae,length_map->aj,length_range->aq,mem_range->aC,mem_of_getElem?->aF,all_eq_true->aH,mem_singleton->aI,length_append->aJ,getElem?_eq_getElem->aV,mem_cons_of_mem->aW,mem_cons->a6,mem_cons_self->a7,not_mem_nil->a8,map_inj_left->a9,getElem?_eq_none->ba,map_append->bf,replicate->bD,map_map->bH,lookup_cons->bL,mem_map->bO,casesOn->bP,map_cons->bT,getElem?_set_ne->b_,size_toArray->cj,mem_iff_getElem?->ck,nodup_cons->cp,mem_append->cq,getElem?_set_self->cu,append_nil->cC,mem_singleton_self->cU,getElem?_eq_some_iff->c9,mem_append_left->dr,map_congr_left->dA,mem_append_right->dE,length_filter_le->dF,getElem?_take_of_lt->dH,range_succ->dJ,reverse_cons->dW,getElem?_append_left->ei,nodup_nil->eC,mem_filter->eO,isEmpty_iff->fe,getElem?_map->fK,length_take->gf,zip_cons_cons->gE,pairwise_cons->gF,getElem?_drop->gG,length_replicate->gR,contains_iff_mem->gS,append_assoc->gZ,getElem?_append_right->hX,any_eq_true->iy,mem_of_find?_eq_some->iE,length_reverse->iN,forIn_cons->je,find?_eq_none->jh,findIdx?_eq_some_iff_getElem->jz,getElem?_inj->jJ,filter_eq_nil_iff->jK,mem_of_mem_take->kN,nil_append->lp,length_set->lq,filterMap_cons->lI,getD_eq_getElem?_getD->mf,forIn_nil->mh,getElem?_zip_eq_some->mD,nodup_append->mW,take_length->n8,mem_reverse->n9,length_eq_zero_iff->n_,length_drop->oa,isEmpty_nil->og,getElem?_replicate->oh,length_singleton->pW,drop_eq_nil_iff->qx,countP_pos_iff->ri,filter_append->sg,take_add_one->ua,rec->ub,flatMap_cons->uc,length_cons->u6,eq_nil_of_length_eq_zero->xo,find?_some->xw,range_add->y4,getLast?_eq_getElem?->Aj,sum_cons->Av,map_take->Aw,range_succ_eq_map->CJ,eq_nil_or_concat->ET,dropLast_eq_take->EU,concat_eq_append->EW,mem_iff_getElem->GA,getLast?_concat->GB,getElem?_append->GC,dropLast_concat->GD,getElem?_range->II,filter_eq_self->IJ,zip_nil_right->IW,getElem_range->IX,filterMap_nil->IY,countP_append->IZ,take_sublist->My,ext_getElem?->Mz,any_eq_false->MA,map_reverse->M0,isEmpty_map->M1,getElem_mem->M3,drop_length->M4,countP_cons->M5,cons_append->M6,head?_drop->Qg,find?_cons->Qh,count_cons->Qi,any_append->Qj,map->Rx,all_cons->Um,map_nil->UT,lookup->X0,head?->Y'
open List.Nodup renaming length_le_of_subset->jA
open List.Pairwise renaming nil->pj,imp_of_mem->X7
open List.cons renaming inj->aL
open Nat renaming le_trans->ak,le_of_ble_eq_true->av,lt_of_lt_of_le->az,le_add_right->aP,lt_of_le_of_lt->aQ,le_refl->aT,zero_le->aU,lt_succ_self->bg,le_of_eq->bh,le_of_not_lt->bu,ne_of_lt->bx,lt_succ_iff_lt_or_eq->bE,eq_of_beq_eq_true->bN,le_of_lt->bW,lt_irrefl->b9,add_le_add_left->ct,eq_of_testBit_eq->cx,succ_le_succ->cB,not_lt->cG,add_sub_of_le->cH,add_sub_cancel_left->cW,beq->c5,add_right_comm->dc,lt_trans->dk,lt_succ_of_lt->dm,not_lt_zero->dy,zero_add->dY,lt_succ_of_le->dZ,lt_add_of_pos_right->eN,add_lt_add_left->eR,ne_of_gt->e_,add_assoc->fc,add_lt_of_lt_sub'->fu,le_of_succ_le->fN,lt_of_le_of_ne->gL,testBit_and->gP,lt_trichotomy->g8,lt_of_succ_lt->g9,testBit_or->ig,mul_le_mul_right->ij,le_succ->ip,add_le_add_right->iq,zero_testBit->iD,sub_lt_sub_left->iX,mul_le_mul_left->iY,le_add_left->jg,lt_or_eq_of_le->jx,lt_of_lt_of_eq->jy,testBit_lt_two_pow->jY,le_succ_of_le->jZ,add_le_add->j0,pow_le_pow_right->kV,le_sub_of_add_le->kW,testBit_two_pow_sub_one->lV,sub_add_cancel->mz,sub_lt_left_of_lt_add->mV,le_of_lt_succ->mY,sub_sub_self->ou,sub_le->pf,mod_lt->pg,add_comm->ph,min_le_left->pV,not_succ_le_self->qU,add_right_cancel->qV,ble->rh,succ_pos->uy,succ_mul->uz,succ_lt_succ->xl,pow_pos->xv,testBit_xor->ya,exists_eq_add_of_le->CH,lt_of_succ_lt_succ->EP,le_mul_of_pos_left->ER,beq_refl->ES,sub_le_iff_le_add->Gy,sub_le_of_le_add->Iz,one_pos->IA,not_succ_le_zero->IC,le_sub_one_of_lt->ID,div_lt_of_lt_mul->IF,casesOn->IH,testBit_two_pow->IV,sub_right_comm->Mw,sub_lt->Mx,sub_sub_right->MY,or_lt_two_pow->MZ,lt_of_not_le->Qf,le_antisymm->Rr,and_le_left->Rt,lt_one_iff->Uk,sub_self->XY,lt_asymm->XZ,pow_add->Y7,mul_add->Y8,log2_lt->Y9,ble_eq->abf
open Nat.succ renaming inj->kM
open Ne renaming symm->d5
open Option renaming none->ab,casesOn->aA,bind_some->bK,map_eq_some_iff->c8,isNone_iff_eq_none->d_,isSome_iff_exists->iM,bind_eq_some_iff->jd,toList_some->rf,map->Gx,map_some->Mv,bind->Uj
open Option.some renaming inj->ag,injEq->qj
open Prod renaming casesOn->oz
open Prod.mk renaming inj->gd,injEq->MX
open PyProof.Rows renaming tail_any->qi,neg_int->xu,nat_or_add_and->EN,Subscript_->EO,Assign_Tuple->Mt,sub_int->YM,rshift_int->YN,pow_int->YO,or_int->YQ,ne_str->YR,ne_int->YS,mul_int->YT,mod_int->YU,lt_int->YV,lshift_int_small->YW,le_int->YX,invert_int->YY,gt_int->YZ,ge_int->Y0,floordiv_int->Y1,eq_str->Y2,eq_int->Y3,and_int->Y4,add_str->Y5,add_int->Y6
open PySem renaming Expr->af,wpAny_bind->ai,wpAny_pure->ar,Value->aB,wpAny->aK,Shared->aN,Addr->aO,Str->bA,wpAny_holding->bM,mainGlobals->bU,Stmt->bV,DictEntry->b7,wpAny_standAt->cc,sizeOk->cg,Comprehension->cR,sizeLine_eq->dp,builtinsNs->dz,Pos->dK,wpAny_mono->dQ,Heap->eu,wpAny_askSetting->eG,Around->fF,World->fP,wpAny_call_entry->gK,FuncData->iU,wpAny_newList->jC,Scope->jD,Obj->jX,wpAny_truthy_bool->kE,wpAny_newObj_type->kF,slot_list_getitem->kG,codeAny_mono->kH,NameKind->lT,wpAny_assign_Tuple->nT,wpAny_setState_of->oy,wpAny_callSpecial?_slot->p_,wpAny_Name->qN,Builtin->qT,pushCells_keeps->qZ,codeAny_builtin->q_,Env->ra,wpAny_alloc->tx,wpAny_rule->xc,call_meets->xd,wpAny_Assign_Name->xZ,wpAny_execs_nil->Cp,codeAny_of_tree->Cq,wpAny_setField->EI,isSubtype_type->EJ,wpAny_getItem_list_slice->Ir,arm_eval_List->It,Slot->Iw,wpAny_Call_method1_late->IQ,wpAny_Assign_Subscript->Mp,name_of_addr->Mq,wpAny_storeName_local->MR,builtinLookup_eq_fast->MS,wpAny_storeName_cell->P9,wpAny_loadName_local->P',wpAny_setEntries_of->Rf,wpAny_loadName_free->Rg,wpAny_loadName_cell->Rk,codeAny_forLoop_any->Rn,wpAny_load->Uc,wpAny_call->Ud,wpAny_Constant_int->Ue,wpAny_sequenceKey->UM,wpAny_pyIter_slot->UN,slot_list_setitem->UO,slot_dict_setitem->UP,wpAny_isInstance->XQ,call->XR,wpAny_ite_split->YG,typeLookup_type->YH,makeFunction_eq->YI,wpAny_newTuple->aa5,wpAny_loadPart->aa6,wpAny_layCells->aa7,wpAny_fieldsOf->aa8,wpAny_Expr_any->aa9,entryFor_alias->aa',arm_eval_Tuple->aa_,arm_eval_Slice->aba
open PySem.Around renaming under_plainId->pU
open PySem.AutoListH renaming list_append_list_val_0->jc
open PySem.Builtin renaming bitAnd->dq,bitNot->xj,bitOr->MW
open PySem.Builtin.Dict renaming notOrdered->YL
open PySem.Builtin.Frozenset renaming sizeOf->qR,oneOther->Qc,newClass->Qd,addrOf->Qe
open PySem.Builtin.Int renaming intBits->dw
open PySem.Builtin.List renaming listLengthHint->r8,listSubscript?->YK
open PySem.Builtin.Range renaming rangeSize->b8,small->jI,rangeFitsLong->rb
open PySem.Calls renaming spliced_nil->mC,callWith_builtin->ot,evalArgs_plain->qh,spliced_cons->r7,Name_function_global->x_,call_len_list->Gw
open PySem.Challenge renaming rw_pq0981_01->cD,pw_pq0981_01->Ui
open PySem.Code renaming builtin->t_
open PySem.Comprehension renaming casesOn->XW
open PySem.Data renaming casesOn->lL,noConfusion->uZ
open PySem.DictEntry renaming refKey->EM
open PySem.Expr renaming casesOn->bF
open PySem.Expr.Attribute renaming elim->pd
open PySem.Expr.BinOp renaming elim->tE
open PySem.Expr.BoolOp renaming elim->rZ
open PySem.Expr.Call renaming elim->ux
open PySem.Expr.Compare renaming elim->qQ
open PySem.Expr.Constant renaming elim->qg
open PySem.Expr.Dict renaming elim->uw
open PySem.Expr.DictComp renaming elim->qf
open PySem.Expr.IfExp renaming elim->tD
open PySem.Expr.Lambda renaming elim->rY
open PySem.Expr.List renaming elim->uv
open PySem.Expr.ListComp renaming elim->qd
open PySem.Expr.Name renaming elim->mu
open PySem.Expr.Set renaming elim->xi
open PySem.Expr.Slice renaming elim->tC
open PySem.Expr.Subscript renaming elim->pb
open PySem.Expr.Tuple renaming elim->lK
open PySem.Expr.UnaryOp renaming elim->qP
open PySem.F renaming slot_list_append->iC,called_set->iV,plainAttrs_list->i9,args_list_append_2->lF,entry_list_append->lU,slot_list_extend->x9,slot_set_iter->As,slot_list_pop->Au,slot_set_add->Ct,plain_list_iadd->Rq,plain_set_new->UR
open PySem.FuncBody renaming casesOn->g7
open PySem.Heap renaming get?_push_of_some->a_,lt_size->bb,get?_push_size->bI,SameBut->cS,get?_update_self->en,size_push->gc,ExtBut->XU
open PySem.Heap.MapOf renaming new->acv
open PySem.Heap.Ns renaming new->Rp
open PySem.Heap.SameBut renaming update->cA,refl->YJ
open PySem.MeetsSeq renaming list_pop_last->UQ
open PySem.NameKind renaming free->ix,cell->me
open PySem.Obj renaming data_mapFields->fj,mapSeq->o_,isFreed_of_fields->qc,data_mapDictKeys->qO,data_mapDict->xh,isFreed_of_dict->IU,putSet->Ms,cls_mapFields->MV
open PySem.PyData renaming keyHash->xt
open PySem.SeqAt.RcNeAt renaming lists_lengths->MU
open PySem.SetTable renaming insertAt->cw,below->c_,fits->qa,fill->xr,has->MT
open PySem.SetTable.probe renaming go->iw
open PySem.Setting renaming mk->Uh
open PySem.Stmt.Assign renaming elim->Cs
open PySem.Stmt.Continue renaming elim->x8
open PySem.Stmt.Expr renaming elim->Iv
open PySem.Stmt.For renaming elim->Mr
open PySem.Stmt.FunctionDef renaming elim->tB
open PySem.Stmt.If renaming elim->Qb
open PySem.Stmt.Return renaming elim->Cr
open PySem.Stmt.While renaming elim->EL
open PySem.Str renaming ofString->aa,length->abc
open PySem.Value renaming casesOn->eT,int->ky,ref->uu,none->Iu,isInt_shape->IT
open PySem.Value.ref renaming inj->xf
open PySem.W renaming boot_heap->ek,cellsFrom_some->EK,callWith_of->P_,boot_drawn->Ug,boot_toks->XS
open PySem.W.WData renaming int->qw,casesOn->Ro
open PySem.W.WShape renaming hasItems->uY,has->Gv,hasAll->Qa
open PySem.W.WTm renaming and->XT
open PySem.pickOrder renaming go->x7
open PySem PySem.W PyProof.Rows PySem.Calls
noncomputable section
namespace Mine
section
variable{p0 p1 P p2 p3 p4:Prop}{x y name:bA}{a l L fa ia D:aO}{b:Bool}{c j i m k N lv tk κ ep:Nat}{e it slice value elt:af}{s s' qo b0 aM s0 sb:aN}{op o1 o2:CmpOp}{es ifs:List af}{aX f7 is:List Nat}{v cv u:aB}{ns iu:List bA}{p pos' px:dK}{h h' h₀ km B:eu}{F:aO->Option jX}{vs us vals dv:List aB}{fd:iU}{ov:Option aB}{env:ra}{A:fF}{Q E:aB->aN->Prop}{ow:Option aO}{i3:List b7}{cs cl:List (bA×aO)}{scope dC:jD}{iS:Option bA}{st:bV}{args:Arguments}{gens gs:List cR}
theorem xA(h:p0/\p1)(k:p0->p1->P):P:=h.elim λv0 h=>k v0 h
theorem xE{A0:Sort u0}{p0:A0->Prop}(h:∃x0,p0 x0)(k:∀x0,p0 x0->P):P:=h.elim λv0 h=>k v0 h
theorem jN(h:p0/\p1/\p2)(k:p0->p1->p2->P):P:=h.elim λv0 h=>h.elim λv1 h=>k v0 v1 h
theorem Us{A0:Sort u0}{p1:A0->Prop}(h:p0/\∃x0,p1 x0)(k:p0->∀x0,p1 x0->P):P:=h.elim λv0 h=>h.elim λv1 h=>k v0 v1 h
theorem bS{A0:Sort u0}{p0:A0->Prop}{p1:A0->Prop}(h:∃x0,p0 x0/\p1 x0)(k:∀x0,p0 x0->p1 x0->P):P:=h.elim λv0 h=>h.elim λv1 h=>k v0 v1 h
theorem u_{A0:Sort u0}{A1:Sort u1}{p0:A0->A1->Prop}(h:∃x0 x1,p0 x0 x1)(k:∀x0 x1,p0 x0 x1->P):P:=h.elim λv0 h=>h.elim λv1 h=>k v0 v1 h
theorem fA(h:p0/\p1/\p2/\p3)(k:p0->p1->p2->p3->P):P:=h.elim λv0 h=>h.elim λv1 h=>h.elim λv2 h=>k v0 v1 v2 h
theorem mF{A0:Sort u0}{p2:A0->Prop}(h:p0/\p1/\∃x0,p2 x0)(k:p0->p1->∀x0,p2 x0->P):P:=h.elim λv0 h=>h.elim λv1 h=>h.elim λv2 h=>k v0 v1 v2 h
theorem RJ{A0:Sort u0}{p1:A0->Prop}{p2:A0->Prop}(h:p0/\∃x0,p1 x0/\p2 x0)(k:p0->∀x0,p1 x0->p2 x0->P):P:=h.elim λv0 h=>h.elim λv1 h=>h.elim λv2 h=>k v0 v1 v2 h
theorem dT{A0:Sort u0}{p0:A0->Prop}{p1:A0->Prop}{p2:A0->Prop}(h:∃x0,p0 x0/\p1 x0/\p2 x0)(k:∀x0,p0 x0->p1 x0->p2 x0->P):P:=h.elim λv0 h=>h.elim λv1 h=>h.elim λv2 h=>k v0 v1 v2 h
theorem gg{A0:Sort u0}{A1:Sort u1}{p0:A0->A1->Prop}{p1:A0->A1->Prop}(h:∃x0 x1,p0 x0 x1/\p1 x0 x1)(k:∀x0 x1,p0 x0 x1->p1 x0 x1->P):P:=h.elim λv0 h=>h.elim λv1 h=>h.elim λv2 h=>k v0 v1 v2 h
theorem Az{A0:Sort u0}{A1:Sort u1}{A2:Sort u2}{p0:A0->A1->A2->Prop}(h:∃x0 x1 x2,p0 x0 x1 x2)(k:∀x0 x1 x2,p0 x0 x1 x2->P):P:=h.elim λv0 h=>h.elim λv1 h=>h.elim λv2 h=>k v0 v1 v2 h
theorem kI(h:p0/\p1/\p2/\p3/\p4)(k:p0->p1->p2->p3->p4->P):P:=h.elim λv0 h=>h.elim λv1 h=>h.elim λv2 h=>h.elim λv3 h=>k v0 v1 v2 v3 h
theorem qn{A0:Sort u0}{p2:A0->Prop}{p3:A0->Prop}(h:p0/\p1/\∃x0,p2 x0/\p3 x0)(k:p0->p1->∀x0,p2 x0->p3 x0->P):P:=h.elim λv0 h=>h.elim λv1 h=>h.elim λv2 h=>h.elim λv3 h=>k v0 v1 v2 v3 h
theorem nX{A0:Sort u0}{A1:Sort u1}{p1:A0->A1->Prop}{p2:A0->A1->Prop}(h:p0/\∃x0 x1,p1 x0 x1/\p2 x0 x1)(k:p0->∀x0 x1,p1 x0 x1->p2 x0 x1->P):P:=h.elim λv0 h=>h.elim λv1 h=>h.elim λv2 h=>h.elim λv3 h=>k v0 v1 v2 v3 h
theorem oB{A0:Sort u0}{p0:A0->Prop}{p1:A0->Prop}{p2:A0->Prop}{p3:A0->Prop}(h:∃x0,p0 x0/\p1 x0/\p2 x0/\p3 x0)(k:∀x0,p0 x0->p1 x0->p2 x0->p3 x0->P):P:=h.elim λv0 h=>h.elim λv1 h=>h.elim λv2 h=>h.elim λv3 h=>k v0 v1 v2 v3 h
theorem I_{A0:Sort u0}{A1:Sort u1}{p0:A0->Prop}{p1:A0->A1->Prop}{p2:A0->A1->Prop}(h:∃x0,p0 x0/\∃x1,p1 x0 x1/\p2 x0 x1)(k:∀x0,p0 x0->∀x1,p1 x0 x1->p2 x0 x1->P):P:=h.elim λv0 h=>h.elim λv1 h=>h.elim λv2 h=>h.elim λv3 h=>k v0 v1 v2 v3 h
theorem cO{A0:Sort u0}{A1:Sort u1}{p0:A0->A1->Prop}{p1:A0->A1->Prop}{p2:A0->A1->Prop}(h:∃x0 x1,p0 x0 x1/\p1 x0 x1/\p2 x0 x1)(k:∀x0 x1,p0 x0 x1->p1 x0 x1->p2 x0 x1->P):P:=h.elim λv0 h=>h.elim λv1 h=>h.elim λv2 h=>h.elim λv3 h=>k v0 v1 v2 v3 h
theorem j8{A0:Sort u0}{A1:Sort u1}{A2:Sort u2}{p0:A0->A1->A2->Prop}{p1:A0->A1->A2->Prop}(h:∃x0 x1 x2,p0 x0 x1 x2/\p1 x0 x1 x2)(k:∀x0 x1 x2,p0 x0 x1 x2->p1 x0 x1 x2->P):P:=h.elim λv0 h=>h.elim λv1 h=>h.elim λv2 h=>h.elim λv3 h=>k v0 v1 v2 v3 h
theorem jE{A0:Sort u0}{A1:Sort u1}{A2:Sort u2}{A3:Sort u3}{p0:A0->A1->A2->A3->Prop}(h:∃x0 x1 x2 x3,p0 x0 x1 x2 x3)(k:∀x0 x1 x2 x3,p0 x0 x1 x2 x3->P):P:=h.elim λv0 h=>h.elim λv1 h=>h.elim λv2 h=>h.elim λv3 h=>k v0 v1 v2 v3 h
theorem iQ{p5:Prop}(h:p0/\p1/\p2/\p3/\p4/\p5)(k:p0->p1->p2->p3->p4->p5->P):P:=h.elim λv0 h=>h.elim λv1 h=>h.elim λv2 h=>h.elim λv3 h=>h.elim λv4 h=>k v0 v1 v2 v3 v4 h
theorem ng{A0:Sort u0}{p4:A0->Prop}(h:p0/\p1/\p2/\p3/\∃x0,p4 x0)(k:p0->p1->p2->p3->∀x0,p4 x0->P):P:=h.elim λv0 h=>h.elim λv1 h=>h.elim λv2 h=>h.elim λv3 h=>h.elim λv4 h=>k v0 v1 v2 v3 v4 h
theorem vb{A0:Sort u0}{p2:A0->Prop}{p3:A0->Prop}{p4:A0->Prop}(h:p0/\p1/\∃x0,p2 x0/\p3 x0/\p4 x0)(k:p0->p1->∀x0,p2 x0->p3 x0->p4 x0->P):P:=h.elim λv0 h=>h.elim λv1 h=>h.elim λv2 h=>h.elim λv3 h=>h.elim λv4 h=>k v0 v1 v2 v3 v4 h
theorem m_{A0:Sort u0}{A1:Sort u1}{p1:A0->A1->Prop}{p2:A0->A1->Prop}{p3:A0->A1->Prop}(h:p0/\∃x0 x1,p1 x0 x1/\p2 x0 x1/\p3 x0 x1)(k:p0->∀x0 x1,p1 x0 x1->p2 x0 x1->p3 x0 x1->P):P:=h.elim λv0 h=>h.elim λv1 h=>h.elim λv2 h=>h.elim λv3 h=>h.elim λv4 h=>k v0 v1 v2 v3 v4 h
theorem m9{A0:Sort u0}{p0:A0->Prop}{p1:A0->Prop}{p2:A0->Prop}{p3:A0->Prop}{p4:A0->Prop}(h:∃x0,p0 x0/\p1 x0/\p2 x0/\p3 x0/\p4 x0)(k:∀x0,p0 x0->p1 x0->p2 x0->p3 x0->p4 x0->P):P:=h.elim λv0 h=>h.elim λv1 h=>h.elim λv2 h=>h.elim λv3 h=>h.elim λv4 h=>k v0 v1 v2 v3 v4 h
theorem RH{A0:Sort u0}{A1:Sort u1}{A2:Sort u2}{p0:A0->Prop}{p1:A0->A1->A2->Prop}{p2:A0->A1->A2->Prop}(h:∃x0,p0 x0/\∃x1 x2,p1 x0 x1 x2/\p2 x0 x1 x2)(k:∀x0,p0 x0->∀x1 x2,p1 x0 x1 x2->p2 x0 x1 x2->P):P:=h.elim λv0 h=>h.elim λv1 h=>h.elim λv2 h=>h.elim λv3 h=>h.elim λv4 h=>k v0 v1 v2 v3 v4 h
theorem iP{A0:Sort u0}{A1:Sort u1}{p0:A0->A1->Prop}{p1:A0->A1->Prop}{p2:A0->A1->Prop}{p3:A0->A1->Prop}(h:∃x0 x1,p0 x0 x1/\p1 x0 x1/\p2 x0 x1/\p3 x0 x1)(k:∀x0 x1,p0 x0 x1->p1 x0 x1->p2 x0 x1->p3 x0 x1->P):P:=h.elim λv0 h=>h.elim λv1 h=>h.elim λv2 h=>h.elim λv3 h=>h.elim λv4 h=>k v0 v1 v2 v3 v4 h
theorem jM{A0:Sort u0}{A1:Sort u1}{A2:Sort u2}{p0:A0->A1->A2->Prop}{p1:A0->A1->A2->Prop}{p2:A0->A1->A2->Prop}(h:∃x0 x1 x2,p0 x0 x1 x2/\p1 x0 x1 x2/\p2 x0 x1 x2)(k:∀x0 x1 x2,p0 x0 x1 x2->p1 x0 x1 x2->p2 x0 x1 x2->P):P:=h.elim λv0 h=>h.elim λv1 h=>h.elim λv2 h=>h.elim λv3 h=>h.elim λv4 h=>k v0 v1 v2 v3 v4 h
theorem m8{A0:Sort u0}{A1:Sort u1}{A2:Sort u2}{A3:Sort u3}{p0:A0->A1->A2->A3->Prop}{p1:A0->A1->A2->A3->Prop}(h:∃x0 x1 x2 x3,p0 x0 x1 x2 x3/\p1 x0 x1 x2 x3)(k:∀x0 x1 x2 x3,p0 x0 x1 x2 x3->p1 x0 x1 x2 x3->P):P:=h.elim λv0 h=>h.elim λv1 h=>h.elim λv2 h=>h.elim λv3 h=>h.elim λv4 h=>k v0 v1 v2 v3 v4 h
theorem uC{p5:Prop}{p6:Prop}(h:p0/\p1/\p2/\p3/\p4/\p5/\p6)(k:p0->p1->p2->p3->p4->p5->p6->P):P:=h.elim λv0 h=>h.elim λv1 h=>h.elim λv2 h=>h.elim λv3 h=>h.elim λv4 h=>h.elim λv5 h=>k v0 v1 v2 v3 v4 v5 h
theorem M_{A0:Sort u0}{A1:Sort u1}{p0:A0->Prop}{p1:A0->A1->Prop}{p2:A0->A1->Prop}{p3:A0->A1->Prop}{p4:A0->A1->Prop}(h:∃x0,p0 x0/\∃x1,p1 x0 x1/\p2 x0 x1/\p3 x0 x1/\p4 x0 x1)(k:∀x0,p0 x0->∀x1,p1 x0 x1->p2 x0 x1->p3 x0 x1->p4 x0 x1->P):P:=h.elim λv0 h=>h.elim λv1 h=>h.elim λv2 h=>h.elim λv3 h=>h.elim λv4 h=>h.elim λv5 h=>k v0 v1 v2 v3 v4 v5 h
theorem iH{A0:Sort u0}{A1:Sort u1}{p0:A0->A1->Prop}{p1:A0->A1->Prop}{p2:A0->A1->Prop}{p3:A0->A1->Prop}{p4:A0->A1->Prop}(h:∃x0 x1,p0 x0 x1/\p1 x0 x1/\p2 x0 x1/\p3 x0 x1/\p4 x0 x1)(k:∀x0 x1,p0 x0 x1->p1 x0 x1->p2 x0 x1->p3 x0 x1->p4 x0 x1->P):P:=h.elim λv0 h=>h.elim λv1 h=>h.elim λv2 h=>h.elim λv3 h=>h.elim λv4 h=>h.elim λv5 h=>k v0 v1 v2 v3 v4 v5 h
theorem kP{A0:Sort u0}{A1:Sort u1}{A2:Sort u2}{p0:A0->A1->A2->Prop}{p1:A0->A1->A2->Prop}{p2:A0->A1->A2->Prop}{p3:A0->A1->A2->Prop}(h:∃x0 x1 x2,p0 x0 x1 x2/\p1 x0 x1 x2/\p2 x0 x1 x2/\p3 x0 x1 x2)(k:∀x0 x1 x2,p0 x0 x1 x2->p1 x0 x1 x2->p2 x0 x1 x2->p3 x0 x1 x2->P):P:=h.elim λv0 h=>h.elim λv1 h=>h.elim λv2 h=>h.elim λv3 h=>h.elim λv4 h=>h.elim λv5 h=>k v0 v1 v2 v3 v4 v5 h
theorem j3{A0:Sort u0}{A1:Sort u1}{A2:Sort u2}{A3:Sort u3}{p0:A0->A1->A2->A3->Prop}{p1:A0->A1->A2->A3->Prop}{p2:A0->A1->A2->A3->Prop}(h:∃x0 x1 x2 x3,p0 x0 x1 x2 x3/\p1 x0 x1 x2 x3/\p2 x0 x1 x2 x3)(k:∀x0 x1 x2 x3,p0 x0 x1 x2 x3->p1 x0 x1 x2 x3->p2 x0 x1 x2 x3->P):P:=h.elim λv0 h=>h.elim λv1 h=>h.elim λv2 h=>h.elim λv3 h=>h.elim λv4 h=>h.elim λv5 h=>k v0 v1 v2 v3 v4 v5 h
theorem AA{A0:Sort u0}{A1:Sort u1}{p1:A0->A1->Prop}{p2:A0->A1->Prop}{p3:A0->A1->Prop}{p4:A0->A1->Prop}{p5:A0->A1->Prop}(h:p0/\∃x0 x1,p1 x0 x1/\p2 x0 x1/\p3 x0 x1/\p4 x0 x1/\p5 x0 x1)(k:p0->∀x0 x1,p1 x0 x1->p2 x0 x1->p3 x0 x1->p4 x0 x1->p5 x0 x1->P):P:=h.elim λv0 h=>h.elim λv1 h=>h.elim λv2 h=>h.elim λv3 h=>h.elim λv4 h=>h.elim λv5 h=>h.elim λv6 h=>k v0 v1 v2 v3 v4 v5 v6 h
theorem I9{A0:Sort u0}{A1:Sort u1}{p0:A0->A1->Prop}{p1:A0->A1->Prop}{p2:A0->A1->Prop}{p3:A0->A1->Prop}{p4:A0->A1->Prop}{p5:A0->A1->Prop}(h:∃x0 x1,p0 x0 x1/\p1 x0 x1/\p2 x0 x1/\p3 x0 x1/\p4 x0 x1/\p5 x0 x1)(k:∀x0 x1,p0 x0 x1->p1 x0 x1->p2 x0 x1->p3 x0 x1->p4 x0 x1->p5 x0 x1->P):P:=h.elim λv0 h=>h.elim λv1 h=>h.elim λv2 h=>h.elim λv3 h=>h.elim λv4 h=>h.elim λv5 h=>h.elim λv6 h=>k v0 v1 v2 v3 v4 v5 v6 h
theorem I8{A0:Sort u0}{A1:Sort u1}{A2:Sort u2}{p0:A0->A1->A2->Prop}{p1:A0->A1->A2->Prop}{p2:A0->A1->A2->Prop}{p3:A0->A1->A2->Prop}{p4:A0->A1->A2->Prop}(h:∃x0 x1 x2,p0 x0 x1 x2/\p1 x0 x1 x2/\p2 x0 x1 x2/\p3 x0 x1 x2/\p4 x0 x1 x2)(k:∀x0 x1 x2,p0 x0 x1 x2->p1 x0 x1 x2->p2 x0 x1 x2->p3 x0 x1 x2->p4 x0 x1 x2->P):P:=h.elim λv0 h=>h.elim λv1 h=>h.elim λv2 h=>h.elim λv3 h=>h.elim λv4 h=>h.elim λv5 h=>h.elim λv6 h=>k v0 v1 v2 v3 v4 v5 v6 h
theorem fo{A0:Sort u0}{A1:Sort u1}{p1:A0->A1->Prop}{p2:A0->A1->Prop}{p3:A0->A1->Prop}{p4:A0->A1->Prop}{p5:A0->A1->Prop}{p6:A0->A1->Prop}(h:p0/\∃x0 x1,p1 x0 x1/\p2 x0 x1/\p3 x0 x1/\p4 x0 x1/\p5 x0 x1/\p6 x0 x1)(k:p0->∀x0 x1,p1 x0 x1->p2 x0 x1->p3 x0 x1->p4 x0 x1->p5 x0 x1->p6 x0 x1->P):P:=h.elim λv0 h=>h.elim λv1 h=>h.elim λv2 h=>h.elim λv3 h=>h.elim λv4 h=>h.elim λv5 h=>h.elim λv6 h=>h.elim λv7 h=>k v0 v1 v2 v3 v4 v5 v6 v7 h
theorem fS{A0:Sort u0}{A1:Sort u1}{A2:Sort u2}{p0:A0->A1->A2->Prop}{p1:A0->A1->A2->Prop}{p2:A0->A1->A2->Prop}{p3:A0->A1->A2->Prop}{p4:A0->A1->A2->Prop}{p5:A0->A1->A2->Prop}(h:∃x0 x1 x2,p0 x0 x1 x2/\p1 x0 x1 x2/\p2 x0 x1 x2/\p3 x0 x1 x2/\p4 x0 x1 x2/\p5 x0 x1 x2)(k:∀x0 x1 x2,p0 x0 x1 x2->p1 x0 x1 x2->p2 x0 x1 x2->p3 x0 x1 x2->p4 x0 x1 x2->p5 x0 x1 x2->P):P:=h.elim λv0 h=>h.elim λv1 h=>h.elim λv2 h=>h.elim λv3 h=>h.elim λv4 h=>h.elim λv5 h=>h.elim λv6 h=>h.elim λv7 h=>k v0 v1 v2 v3 v4 v5 v6 v7 h
theorem CL{A0:Sort u0}{A1:Sort u1}{A2:Sort u2}{A3:Sort u3}{A4:Sort u4}{A5:Sort u5}{p0:A0->A1->A2->A3->A4->A5->Prop}{p1:A0->A1->A2->A3->A4->A5->Prop}{p2:A0->A1->A2->A3->A4->A5->Prop}{p3:A0->A1->A2->A3->A4->A5->Prop}(h:∃x0 x1 x2 x3 x4 x5,p0 x0 x1 x2 x3 x4 x5/\p1 x0 x1 x2 x3 x4 x5/\p2 x0 x1 x2 x3 x4 x5/\p3 x0 x1 x2 x3 x4 x5)(k:∀x0 x1 x2 x3 x4 x5,p0 x0 x1 x2 x3 x4 x5->p1 x0 x1 x2 x3 x4 x5->p2 x0 x1 x2 x3 x4 x5->p3 x0 x1 x2 x3 x4 x5->P):P:=h.elim λv0 h=>h.elim λv1 h=>h.elim λv2 h=>h.elim λv3 h=>h.elim λv4 h=>h.elim λv5 h=>h.elim λv6 h=>h.elim λv7 h=>h.elim λv8 h=>k v0 v1 v2 v3 v4 v5 v6 v7 v8 h
theorem ff(h:false=true):P:=nomatch h
theorem nn{α:Type u}{x:α}(h:none=some x):P:=nomatch h
theorem an{a:Bool}(h:(a&&b)=true)(k:a=true->b=true->P):P:=a.casesOn (motive:=λa=>(a&&b)=true->(a=true->b=true->P)->P) (λh _=>ff h) (λh k=>k rfl h) h k
theorem rW{a c:Bool}(h:(a&&b&&c)=true)(k:a=true->b=true->c=true->P):P:=an h λh hc=>an h λha hb=>k ha hb hc
theorem Mc{a c d:Bool}(h:(a&&b&&c&&d)=true)(k:a=true->b=true->c=true->d=true->P):P:=an h λh hd=>rW h λha hb hc=>k ha hb hc hd
theorem XH{a c d e:Bool}(h:(a&&b&&c&&d&&e)=true)(k:a=true->b=true->c=true->d=true->e=true->P):P:=an h λh he=>Mc h λha hb hc hd=>k ha hb hc hd he
theorem Mb{a c d e f:Bool}(h:(a&&b&&c&&d&&e&&f)=true)(k:a=true->b=true->c=true->d=true->e=true->f=true->P):P:=an h λh hf=>XH h λha hb hc hd he=>k ha hb hc hd he hf
theorem TZ{a c d e f g:Bool}(h:(a&&b&&c&&d&&e&&f&&g)=true)(k:a=true->b=true->c=true->d=true->e=true->f=true->g=true->P):P:=an h λh hg=>Mb h λha hb hc hd he hf=>k ha hb hc hd he hf hg
@[elab_as_elim] theorem CG{α:Type u}[BEq α][LawfulBEq α]{a b:α}{P:α->Prop}(h:(a==b)=true)(k:P b):P a:=eq_of_beq h▸k
@[elab_as_elim] theorem sk{α:Type u}{a b:α}{P:α->Prop}(h:some a=some b)(k:P a):P b:=ag h▸k
@[elab_as_elim] theorem pk{α:Type u}{β:Type v}{a c:α}{b d:β}{P:α->β->Prop}(h:(a,b)=(c,d))(k:P a b):P c d:=(gd h).1▸(gd h).2▸k
@[elab_as_elim] theorem sp{α:Type u}{β:Type v}{a c:α}{b d:β}{P:α->β->Prop}(h:some (a,b)=some (c,d))(k:P a b):P c d:=pk (ag h) k
@[elab_as_elim] theorem xp{α:Type u}{β:Type v}{γ:Type w}{a c:α}{b d:β}{e f:γ}{P:α->β->γ->Prop}(h:some (a,b,e)=some (c,d,f))(k:P a b e):P c d f:=pk (P:=λx y=>P x y.1 y.2) (ag h) k
theorem ob{α:Type u}{β:Type v}{o:Option α}{f:α->Option β}{b:β}(h:o.bind f=some b)(k:∀a,o=some a->f a=some b->P):P:=o.casesOn (motive:=λo=>o.bind f=some b->(∀a,o=some a->f a=some b->P)->P) (λh _=>nn h) (λa h k=>k a rfl h) h k
theorem f9{α:Type u}{β:Type v}{γ:Type w}{o:Option (α×β)}{f:α×β->Option γ}{b:γ}(h:o.bind f=some b)(k:∀x y,o=some (x,y)->f (x,y)=some b->P):P:=ob h λa=>k a.1 a.2
@[elab_as_elim] theorem om{α:Type u}{β:Type v}{o:Option α}{f:α->β}{b:β}{P:β->Prop}(h:o.map f=some b)(k:∀a,o=some a->P (f a)):P b:=o.casesOn (motive:=λo=>o.map f=some b->(∀a,o=some a->P (f a))->P b) (λh _=>nn h) (λa h k=>sk h (k a rfl)) h k
@[elab_as_elim] theorem Yn{α:Type u}{β:Type v}{γ:Type w}{o:Option (α×β)}{f:α×β->γ}{b:γ}{P:γ->Prop}(h:o.map f=some b)(k:∀x y,o=some (x,y)->P (f (x,y))):P b:=om h λa=>k a.1 a.2
@[elab_as_elim] theorem tM{α:Type u}{β:Type v}{γ:Type w}{o:Option α}{f:α->β×γ}{b:β}{c:γ}{P:β->γ->Prop}(h:o.map f=some (b,c))(k:∀a,o=some a->P (f a).1 (f a).2):P b c:=om (P:=λx=>P x.1 x.2) h k
theorem se{c:Prop}[Decidable c]{α:Sort u}{a b y:α}(h:(if c then a else b)=y)(k:c->a=y->P)(l:¬c->b=y->P):P:=if x:c then k x ((if_pos x).symm.trans h)else l x ((if_neg x).symm.trans h)
theorem dU{c:Prop}[Decidable c]{α:Type u}{a:Option α}{y:α}(h:(if c then a else none)=some y)(k:c->a=some y->P):P:=se h k λ_ h=>nn h
@[elab_as_elim] theorem oN{α:Type u}{o:Option α}{P:Option α->Prop}(h:o.isNone=true)(k:P none):P o:=o.casesOn (motive:=λo=>o.isNone=true->P o) (λ_=>k) (λ_ h=>ff h) h
@[elab_as_elim] theorem oS{α:Type u}{o:Option α}{f:α->Bool}{P:Option α->Prop}(h:o.any f=true)(k:∀a,f a=true->P (some a)):P o:=o.casesOn (motive:=λo=>o.any f=true->P o) (λh=>ff h) (λa h=>k a h) h
@[elab_as_elim] theorem l0{α:Type u}{l:List α}{P:List α->Prop}(h:l.isEmpty=true)(k:P []):P l:=l.casesOn (motive:=λl=>l.isEmpty=true->P l) (λ_=>k) (λ_ _ h=>ff h) h
theorem oP{α:Type u}{o:Option α}{f:α->Bool}(h:o.any f=true)(k:∀a,o=some a->f a=true->P):P:=o.casesOn (motive:=λo=>o.any f=true->(∀a,o=some a->f a=true->P)->P) (λh _=>ff h) (λa h k=>k a rfl h) h k
theorem bs{α:Type u}{β:Type v}{o:Option α}{a:α}{f:α->Option β}{z:Option β}(h:o=some a)(k:f a=z):o.bind f=z:=h▸k
theorem ms{α:Type u}{β:Type v}{o:Option α}{a:α}{f:α->β}(h:o=some a):o.map f=some (f a):=h▸rfl
theorem oe{α:Type u}{β:Type v}{o:Option α}{z y:β}{f:α->β}(h:o.elim z f=y)(k:o=none->z=y->P)(l:∀a,o=some a->f a=y->P):P:=o.casesOn (motive:=λo=>o.elim z f=y->(o=none->z=y->P)->(∀a,o=some a->f a=y->P)->P) (λh k _=>k rfl h) (λa h _ l=>l a rfl h) h k l
theorem Ap{α:Type u}{β:Type v}{o:Option α}{f:α->β}{b:β}(h:o.map f=some b)(k:∀a,o=some a->some (f a)=some b->P):P:=o.casesOn (motive:=λo=>o.map f=some b->(∀a,o=some a->some (f a)=some b->P)->P) (λh _=>nn h) (λa h k=>k a rfl h) h k
theorem V_{α:Type u}{β:Type v}[BEq α][LawfulBEq α]{j i:α}{x d:β}{l:List (α×β)}(h:X0 j ((i,x)::l)=some d)(k1:j=i->x=d->P)(k2:(j==i)=false->l.lookup j=some d->P):P:=by
 rw[bL]at h;induction hb:j==i using ax with
 |true=>rw[hb]at h;exact k1 (eq_of_beq hb) (ag h)
 |false=>rw[hb]at h;exact k2 hb h
theorem fB{α:Type u}{l:List α}{x:α}(h:l[i]?=some x):i<l.length:=(c9.mp h).1
theorem uQ{α:Type u}{l r:List α}{x:α}(e:(l++r)[i]?=some x)(k1:l[i]?=some x->P)(k2:∀j,i=l.length+j->r[j]?=some x->P):P:=
 if h:i<l.length then k1 ((ei h).symm.trans e)else k2 (i-l.length) (cH (cG.mp h)).symm ((hX (cG.mp h)).symm.trans e)
theorem get_map{α:Type u}{β:Type v}{l:List α}{f:α->β}{x:β}(e:(l.map f)[i]?=some x)(k:∀a,l[i]?=some a->f a=x->P):P:=match h:l[i]?with
 |some a=>k a h (ag (((fK).trans (congrArg (Gx f) h)).symm.trans e))
 |none=>nn (((fK).trans (congrArg (Gx f) h)).symm.trans e)
theorem Qx{α:Type u}{a b:Option α}{r:α}(h:a.or b=some r)(k:a=some r->P)(l:b=some r->P):P:=a.casesOn (motive:=λa=>a.or b=some r->(a=some r->P)->P) (λh _=>l h) (λ_ h k=>k h) h k
@[elab_as_elim] theorem MM{α:Type u}{β:Type v}{γ:Type w}{δ:Type z}{o:Option α}{f:α->β×γ×δ}{b:β}{c:γ}{d:δ}{P:β->γ->δ->Prop}(h:o.map f=some (b,c,d))(k:∀a,o=some a->P (f a).1 (f a).2.1 (f a).2.2):P b c d:=om (P:=λx=>P x.1 x.2.1 x.2.2) h k
theorem ll{a n:Nat}(h:a<=m)(e:rh m n=true):a<=n:=ak h (av e)
theorem RR{a b n:Nat}(h:a<b)(g:b<=m)(e:rh m n=true):a<n:=az h (ak g (av e))
theorem cps(h:∀G:Prop,(P->G)->G):P:=h P id
@[elab_as_elim] theorem eW{α:Sort u}{a b:α}{P:α->Prop}(h:a=b)(k:P b):P a:=h▸k
@[elab_as_elim] theorem eL{α:Sort u}{a b:α}{P:α->Prop}(h:a=b)(k:P a):P b:=h▸k
@[elab_as_elim] theorem iW{a b:Prop}{P:Prop->Prop}(h:a↔b)(k:P b):P a:=propext h▸k
@[elab_as_elim] theorem iL{a b:Prop}{P:Prop->Prop}(h:a↔b)(k:P a):P b:=propext h▸k
@[elab_as_elim] theorem l2{α:Type u}{β:Type v}{P:List α->List β->Prop}(as:List α)(bs:List β)(h0:P [] [])(h1:∀a as b bs,P as bs->P (a::as) (b::bs))(ha:∀a as,P (a::as) [])(hb:∀b bs,P [] (b::bs)):P as bs:=
  ub (motive:=λas=>∀bs,P as bs) (λbs=>bs.casesOn h0 hb) (λa as ih bs=>bs.casesOn (ha a as) λb bs=>h1 a as b bs (ih bs)) as bs
@[elab_as_elim] theorem bk{α:Type u}{x y z:α}{P:Bool->Prop}(h:(if b=true then x else y)=z)(t:x=z->P true)(f:y=z->P false):P b:=
  b.casesOn (motive:=λb=>(if b=true then x else y)=z->P b) f t h
inductive FV where
 |none|bool (b:Bool)|int (i:Int)|str (s:bA)
 |tup (xs:List FV)|list (xs:List FV)
 |dict (es:List (Int×FV))|set (xs:List Int)
 |inst (c:Nat) (fs:List (Nat×FV))
 |obj (a:Nat)|mB (k:Nat) (aX:List FV)
 |range (a b c:Int)
 |well
set_option genCtorIdx false
inductive OB where
 |list (xs:List FV)|dict (es:List (Int×FV))|set (xs:List Int)
inductive OF where
 |fv (d:FV)|ob (o:OB)
inductive OT where
 |ob (o:OB)|gu (iG:List (List FV))|inst (c:Nat) (fs:List (Nat×OF))
inductive EV where
 |fv (d:FV)|bor (t:OT)|own (t:OT)
set_option genCtorIdx true in
inductive Slot where
 |unset|val (d:FV)|own (t:OT)|ro (d:FV)|bor (t:OT)
noncomputable def OB.fz:OB->FV
 |.list xs=>.list xs
 |.dict es=>.dict es
 |.set xs=>.set xs
def OF.fz:OF->FV
 |.fv d=>d
 |.ob o=>o.fz
def OT.fz:OT->FV
 |.ob o=>o.fz
 |.gu iG=>.list (iG.map FV.list)
 |.inst c fs=>.inst c (fs.map λp=>(p.1,p.2.fz))
noncomputable def Slot.GX:Slot->Option EV
 |.unset=>ab
 |.val d=>some (.fv d)
 |.own t=>some (.bor t)
 |.ro d=>some (.fv d)
 |.bor t=>some (.bor t)
noncomputable def Slot.lend:Slot->Option Slot
 |.unset=>ab
 |.val d=>some (.ro d)
 |.own t=>some (.bor t)
 |.ro d=>some (.ro d)
 |.bor t=>some (.bor t)
noncomputable def EV.slot:EV->Slot
 |.fv d=>.val d
 |.bor t=>.bor t
 |.own t=>.own t
noncomputable def EV.arg:EV->Slot
 |.fv d=>.val d
 |.bor t=>.bor t
 |.own t=>.own t
abbrev WL:=Option (List FV)
set_option genCtorIdx true
inductive BI where
 |len|range|list|set|abs|int|max|min|sum|sorted
 deriving DecidableEq
inductive ME where
 |strip|count|user (k:Nat)
 deriving DecidableEq
set_option genCtorIdx false
mutual
inductive IE where
 |var (i:Nat)
 |lit (d:FV)
 |bc (d:FV)
 |bin (op:Operator) (a b:IE)
 |un (op:UnaryOp) (a:IE)
 |ic (es:IL)|uJ (es:IL)
 |cmp (op:CmpOp) (a b:IE)
 |chain (op1 op2:CmpOp) (a b c:IE)
 |ite (t a b:IE)
 |idx (a i:IE)
 |xy (a lo hi:IE)
 |rev (a:IE)
 |attr (a:IE) (k:Nat)
 |tup (es:IL)
 |lst (own:Bool) (es:IL)
 |GV (es:IL)
 |B2
 |vK (a b:IE)
 |call (f:IE) (es:IL)
 |bj (b:BI) (own:Bool) (es:IL)
 |ef (m:ME) (o:IE) (es:IL)
 |comp (own:Bool) (m:Nat) (aX:List Nat) (it:IE) (f7:List Nat) (ifs:IL) (rest:IG)
 |sX (m:Nat) (aX:List Nat) (it:IE) (f7:Nat)
 |rR (own:Bool) (m:Nat) (aX:List Nat) (it:IE) (f7:Nat) (v:IE)
 |lam (k:Nat) (aX:List Nat)
inductive IL where
 |nil|cons (e:IE) (r:IL)
inductive IG where
 |emit (e:IE)|gen (it:IE) (f7:List Nat) (ifs:IL) (rest:IG)
end
noncomputable def IE.SR:IE->Option FV
 |.lit d=>some d
 |_=>ab
@[elab_as_elim] theorem IE.SQ{P:IE->Prop}{e:IE}{d:FV}(h:e.SR=some d)(k:P (.lit d)):P e:=IE.casesOn (motive_1:=λo=>o.SR=some d->P o) e (λ_=>nn) (λa h=>sk (P:=λx=>P (.lit x)) h.symm k) (λ_=>nn) (λ_ _ _=>nn) (λ_ _=>nn) (λ_=>nn) (λ_=>nn) (λ_ _ _=>nn) (λ_ _ _ _ _=>nn) (λ_ _ _=>nn) (λ_ _=>nn) (λ_ _ _=>nn) (λ_=>nn) (λ_ _=>nn) (λ_=>nn) (λ_ _=>nn) (λ_=>nn) nn (λ_ _=>nn) (λ_ _=>nn) (λ_ _ _=>nn) (λ_ _ _=>nn) (λ_ _ _ _ _ _ _=>nn) (λ_ _ _ _=>nn) (λ_ _ _ _ _ _=>nn) (λ_ _=>nn) h
set_option genCtorIdx true in
inductive Path where
 |v (i:Nat)|at(i:Nat) (e:IE)|fld (i k:Nat)
mutual
inductive IS where
 |assign (i:Nat) (e:IE)
 |unpack (is:List Nat) (e:IE)
 |jk (is:List Nat) (es:IL)
 |fW (p:Path) (i e:IE)
 |setAttr (i k:Nat) (e:IE)
 |append (p:Path) (e:IE)
 |extend (p:Path) (e:IE)
 |add (p:Path) (e:IE)
 |pop (is:List Nat) (single:Bool) (i:Nat)
 |run (e:IE)
 |ite (t:IE) (a b:IB)
 |while (t:IE) (b:IB)
 |for (is:List Nat) (it:IE) (b:IB)
 |kS (i j:Nat) (it:IE) (b:IB)
 |ret (e:IE)
 |cont
 |fail
 |fz (i:Nat)
 |lock (aX:List Nat)
 |defn (i k:Nat) (aX:List Nat)
inductive IB where
 |nil|cons (s:IS) (r:IB)
end
noncomputable def IS.fz?:IS->Option Nat
 |.fz i=>some i
 |_=>ab
noncomputable def IS.Kw:IS->Option (List Nat)
 |.lock c=>some c
 |_=>ab
@[elab_as_elim] theorem IS.Xl{P:IS->Prop}{e:IS}{d:Nat}(h:e.fz?=some d)(k:P (.fz d)):P e:=IS.casesOn (motive_1:=λo=>o.fz?=some d->P o) e (λ_ _=>nn) (λ_ _=>nn) (λ_ _=>nn) (λ_ _ _=>nn) (λ_ _ _=>nn) (λ_ _=>nn) (λ_ _=>nn) (λ_ _=>nn) (λ_ _ _=>nn) (λ_=>nn) (λ_ _ _=>nn) (λ_ _=>nn) (λ_ _ _=>nn) (λ_ _ _ _=>nn) (λ_=>nn) nn nn (λa h=>sk (P:=λx=>P (.fz x)) h.symm k) (λ_=>nn) (λ_ _ _=>nn) h
@[elab_as_elim] theorem IS.Oz{P:IS->Prop}{e:IS}{d:List Nat}(h:e.Kw=some d)(k:P (.lock d)):P e:=IS.casesOn (motive_1:=λo=>o.Kw=some d->P o) e (λ_ _=>nn) (λ_ _=>nn) (λ_ _=>nn) (λ_ _ _=>nn) (λ_ _ _=>nn) (λ_ _=>nn) (λ_ _=>nn) (λ_ _=>nn) (λ_ _ _=>nn) (λ_=>nn) (λ_ _ _=>nn) (λ_ _=>nn) (λ_ _ _=>nn) (λ_ _ _ _=>nn) (λ_=>nn) nn nn (λ_=>nn) (λa h=>sk (P:=λx=>P (.lock x)) h.symm k) (λ_ _ _=>nn) h
noncomputable def FV.b?(d:FV):Option (Bool):=if h:d.ctorIdx=1 then some (FV.bool.elim (motive_1:=λ_=>Bool) d h id)else ab
@[elab_as_elim] theorem FV.XF{P:FV->Prop}{d:FV}{x:Bool}(h:d.b?=some x)(k:P (.bool x)):P d:=
  if c:d.ctorIdx=1 then FV.bool.elim (motive_1:=λd=>d.b?=some x->P d) d c (λa h=>sk (P:=λa=>P (.bool a)) (show some x=some a from h.symm) k) h else nn ((dif_neg c).symm.trans h)
noncomputable def FV.i?(d:FV):Option (Int):=if h:d.ctorIdx=2 then some (FV.int.elim (motive_1:=λ_=>Int) d h id)else ab
@[elab_as_elim] theorem FV.D2{P:FV->Prop}{d:FV}{x:Int}(h:d.i?=some x)(k:P (.int x)):P d:=
  if c:d.ctorIdx=2 then FV.int.elim (motive_1:=λd=>d.i?=some x->P d) d c (λa h=>sk (P:=λa=>P (.int a)) (show some x=some a from h.symm) k) h else nn ((dif_neg c).symm.trans h)
noncomputable def FV.s?(d:FV):Option (bA):=if h:d.ctorIdx=3 then some (FV.str.elim (motive_1:=λ_=>bA) d h id)else ab
@[elab_as_elim] theorem FV.Se{P:FV->Prop}{d:FV}(h:d.s?=some x)(k:P (.str x)):P d:=
  if c:d.ctorIdx=3 then FV.str.elim (motive_1:=λd=>d.s?=some x->P d) d c (λa h=>sk (P:=λa=>P (.str a)) (show some x=some a from h.symm) k) h else nn ((dif_neg c).symm.trans h)
noncomputable def FV.t?(d:FV):Option (List FV):=if h:d.ctorIdx=4 then some (FV.tup.elim (motive_1:=λ_=>List FV) d h id)else ab
@[elab_as_elim] theorem FV.CX{P:FV->Prop}{d:FV}{x:List FV}(h:d.t?=some x)(k:P (.tup x)):P d:=
  if c:d.ctorIdx=4 then FV.tup.elim (motive_1:=λd=>d.t?=some x->P d) d c (λa h=>sk (P:=λa=>P (.tup a)) (show some x=some a from h.symm) k) h else nn ((dif_neg c).symm.trans h)
noncomputable def FV.l?(d:FV):Option (List FV):=if h:d.ctorIdx=5 then some (FV.list.elim (motive_1:=λ_=>List FV) d h id)else ab
@[elab_as_elim] theorem FV.xF{P:FV->Prop}{d:FV}{x:List FV}(h:d.l?=some x)(k:P (.list x)):P d:=
  if c:d.ctorIdx=5 then FV.list.elim (motive_1:=λd=>d.l?=some x->P d) d c (λa h=>sk (P:=λa=>P (.list a)) (show some x=some a from h.symm) k) h else nn ((dif_neg c).symm.trans h)
noncomputable def FV.d?(d:FV):Option (List (Int×FV)):=if h:d.ctorIdx=6 then some (FV.dict.elim (motive_1:=λ_=>List (Int×FV)) d h id)else ab
@[elab_as_elim] theorem FV.LG{P:FV->Prop}{d:FV}{x:List (Int×FV)}(h:d.d?=some x)(k:P (.dict x)):P d:=
  if c:d.ctorIdx=6 then FV.dict.elim (motive_1:=λd=>d.d?=some x->P d) d c (λa h=>sk (P:=λa=>P (.dict a)) (show some x=some a from h.symm) k) h else nn ((dif_neg c).symm.trans h)
noncomputable def FV.Np(d:FV):Option (List Int):=if h:d.ctorIdx=7 then some (FV.set.elim (motive_1:=λ_=>List Int) d h id)else ab
@[elab_as_elim] theorem FV.AR{P:FV->Prop}{d:FV}{x:List Int}(h:d.Np=some x)(k:P (.set x)):P d:=
  if c:d.ctorIdx=7 then FV.set.elim (motive_1:=λd=>d.Np=some x->P d) d c (λa h=>sk (P:=λa=>P (.set a)) (show some x=some a from h.symm) k) h else nn ((dif_neg c).symm.trans h)
noncomputable def FV.HS(d:FV):Option (Nat×List (Nat×FV)):=if h:d.ctorIdx=8 then some (FV.inst.elim (motive_1:=λ_=>Nat×List (Nat×FV)) d h Prod.mk)else ab
@[elab_as_elim] theorem FV.rO{P:FV->Prop}{d:FV}{x:Nat×List (Nat×FV)}(h:d.HS=some x)(k:P (.inst x.1 x.2)):P d:=
  if c:d.ctorIdx=8 then FV.inst.elim (motive_1:=λd=>d.HS=some x->P d) d c (λa b h=>sk (P:=λx=>P (.inst x.1 x.2)) (show some x=some (a,b)from h.symm) k) h else nn ((dif_neg c).symm.trans h)
noncomputable def FV.r?(d:FV):Option (Int×Int×Int):=if h:d.ctorIdx=11 then some (FV.range.elim (motive_1:=λ_=>Int×Int×Int) d h λa b c=>(a,b,c))else ab
@[elab_as_elim] theorem FV.VH{P:FV->Prop}{d:FV}{x:Int×Int×Int}(h:d.r?=some x)(k:P (.range x.1 x.2.1 x.2.2)):P d:=
  if c:d.ctorIdx=11 then FV.range.elim (motive_1:=λd=>d.r?=some x->P d) d c (λa b e h=>sk (P:=λx=>P (.range x.1 x.2.1 x.2.2)) (show some x=some (a,b,e)from h.symm) k) h else nn ((dif_neg c).symm.trans h)
@[elab_as_elim] theorem FV.vC{P:FV->Prop}{d:FV}(h:d.ctorIdx=0)(k:P .none):P d:=FV.none.elim (motive_1:=P) d h k
@[elab_as_elim] theorem FV.Jc{P:FV->Prop}{d:FV}(h:d.ctorIdx=12)(k:P .well):P d:=FV.well.elim (motive_1:=P) d h k
def FV.seq?(d:FV):Option (List FV):=d.t?.elim d.l? some
noncomputable def OB.l?:OB->Option (List FV)
 |.list xs=>some xs
 |.dict _=>ab
 |.set _=>ab
noncomputable def OB.d?:OB->Option (List (Int×FV))
 |.list _=>ab
 |.dict es=>some es
 |.set _=>ab
noncomputable def OB.Np:OB->Option (List Int)
 |.list _=>ab
 |.dict _=>ab
 |.set xs=>some xs
@[elab_as_elim] theorem OB.xF{P:OB->Prop}{o:OB}{x:List FV}(h:o.l?=some x)(k:P (.list x)):P o:=OB.casesOn (motive:=λo=>o.l?=some x->P o) o (λa h=>sk (P:=λx=>P (.list x)) h.symm k) (λ_=>nn) (λ_=>nn) h
@[elab_as_elim] theorem OB.LG{P:OB->Prop}{o:OB}{x:List (Int×FV)}(h:o.d?=some x)(k:P (.dict x)):P o:=OB.casesOn (motive:=λo=>o.d?=some x->P o) o (λ_=>nn) (λa h=>sk (P:=λx=>P (.dict x)) h.symm k) (λ_=>nn) h
@[elab_as_elim] theorem OB.AR{P:OB->Prop}{o:OB}{x:List Int}(h:o.Np=some x)(k:P (.set x)):P o:=OB.casesOn (motive:=λo=>o.Np=some x->P o) o (λ_=>nn) (λ_=>nn) (λa h=>sk (P:=λx=>P (.set x)) h.symm k) h
noncomputable def OT.o?:OT->Option OB
 |.ob o=>some o
 |.gu _=>ab
 |.inst _ _=>ab
noncomputable def OT.V':OT->Option (List (List FV))
 |.ob _=>ab
 |.gu x=>some x
 |.inst _ _=>ab
noncomputable def OT.HS:OT->Option (Nat×List (Nat×OF))
 |.ob _=>ab
 |.gu _=>ab
 |.inst c fs=>some (c,fs)
@[elab_as_elim] theorem OT.zw{P:OT->Prop}{o:OT}{x:OB}(h:o.o?=some x)(k:P (.ob x)):P o:=OT.casesOn (motive:=λo=>o.o?=some x->P o) o (λa h=>sk (P:=λx=>P (.ob x)) h.symm k) (λ_=>nn) (λ_ _=>nn) h
@[elab_as_elim] theorem OT.Ky{P:OT->Prop}{o:OT}{x:List (List FV)}(h:o.V'=some x)(k:P (.gu x)):P o:=OT.casesOn (motive:=λo=>o.V'=some x->P o) o (λ_=>nn) (λa h=>sk (P:=λx=>P (.gu x)) h.symm k) (λ_ _=>nn) h
@[elab_as_elim] theorem OT.rO{P:OT->Prop}{o:OT}{x:Nat×List (Nat×OF)}(h:o.HS=some x)(k:P (.inst x.1 x.2)):P o:=OT.casesOn (motive:=λo=>o.HS=some x->P o) o (λ_=>nn) (λ_=>nn) (λ_ _ h=>sk (P:=λx=>P (.inst x.1 x.2)) h.symm k) h
noncomputable def jb:EV->Option FV
 |.fv d=>some d
 |.bor _=>ab
 |.own _=>ab
noncomputable def LX:EV->Option OT
 |.fv _=>ab
 |.bor t=>some t
 |.own _=>ab
@[elab_as_elim] theorem eg{P:EV->Prop}{e:EV}{x:FV}(h:jb e=some x)(k:P (.fv x)):P e:=EV.casesOn (motive:=λo=>jb o=some x->P o) e (λa h=>sk (P:=λx=>P (.fv x)) h.symm k) (λ_=>nn) (λ_=>nn) h
@[elab_as_elim] theorem Gl{P:EV->Prop}{e:EV}{x:OT}(h:LX e=some x)(k:P (.bor x)):P e:=EV.casesOn (motive:=λo=>LX o=some x->P o) e (λ_=>nn) (λa h=>sk (P:=λx=>P (.bor x)) h.symm k) (λ_=>nn) h
noncomputable def EV.by{α:Type}(f:FV->Option α)(g:OT->Option α):EV->Option α
 |.fv d=>f d
 |.bor t=>g t
 |.own _=>ab
@[elab_as_elim] theorem EV.Ad{α:Type}{f:FV->Option α}{g:OT->Option α}{P:EV->Prop}{e:EV}{x:α}(h:e.by f g=some x)(k:∀d,f d=some x->P (.fv d))(l:∀t,g t=some x->P (.bor t)):P e:=EV.casesOn (motive:=λe=>e.by f g=some x->P e) e k l (λ_=>nn) h
noncomputable def eZ:List FV->Option (List Int)
 |[]=>some []
 |d::r=>d.i?.bind λi=>(eZ r).map (i::·)
def EV.eh(e:EV):Option (List FV):=e.by FV.l? λt=>t.o?.bind OB.l?
def EV.L7(e:EV):Option (List Int):=e.by FV.Np λt=>t.o?.bind OB.Np
def EV.wZ(e:EV):Option (List (Int×FV)):=e.by FV.d? λt=>t.o?.bind OB.d?
def pP(e:EV):Option Int:=(jb e).bind FV.i?
def L8(e:EV):Option bA:=(jb e).bind FV.s?
@[elab_as_elim] theorem n7{P:EV->Prop}{e:EV}{x:Int}(h:pP e=some x)(k:P (.fv (.int x))):P e:=ob h λd h1 h2=>eg h1 (FV.D2 h2 k)
@[elab_as_elim] theorem XG{P:EV->Prop}{e:EV}(h:L8 e=some x)(k:P (.fv (.str x))):P e:=ob h λd h1 h2=>eg h1 (FV.Se h2 k)
noncomputable def L6(op:Operator)(a b:Int):Option Int:=match op with
 |.Add=>some (a+b)
 |.Sub=>some (a-b)
 |.Mult=>if a.natAbs<2^63\/b.natAbs<2^63 then some (a*b)else ab
 |.FloorDiv=>if b≠0/\b.natAbs<2^128 then some (a.fdiv b)else ab
 |.Mod=>if b≠0 then some (a.fmod b)else ab
 |.Pow=>if 0<=b/\(dw a:Int)*b<=2^27 then some (a^b.toNat)else ab
 |.LShift=>if 0<=b/\b<=1000000/\a.natAbs<2^64 then some (a*2^b.toNat)else ab
 |.RShift=>if 0<=b then some (a.fdiv (2^b.toNat))else ab
 |.BitAnd=>some (dq a b)
 |.BitOr=>some (MW a b)
 |.BitXor=>ab
 |.Div=>ab
 |.MatMult=>ab
noncomputable def cg(n:Nat):Bool:=decide (n<=2^20)
def i7(op:Operator)(a b:EV):Option EV:=
 (pP a).elim (if op=.Add then(L8 a).elim (a.eh.bind λxs=>b.eh.bind λys=>if cg (xs.length+ys.length)then some (.fv (.list (xs++ys)))else ab)
   λx=>(L8 b).bind λy=>if cg (x.cps.size+y.cps.size)then some (.fv (.str (x++y)))else ab else ab)
   λx=>(pP b).bind λy=>(L6 op x y).map λr=>.fv (.int r)
def CS(xs:List FV):Option Bool:=if cg xs.length then some (!xs.isEmpty)else ab
def Nl(d:FV):Option Bool:=if d.ctorIdx=0 then some false else d.b?.elim (d.l?.bind CS) some
def iR(e:EV):Option Bool:=e.by Nl λt=>(t.o?.bind OB.l?).bind CS
def Nk(op:UnaryOp)(a:EV):Option EV:=match op with
 |.USub=>(pP a).map λx=>.fv (.int (-x))
 |.Invert=>(pP a).map λx=>.fv (.int (xj x))
 |.Not=>(iR a).map λb=>.fv (.bool !b)
 |.UAdd=>ab
def j6(i:Int)(xs:List FV):Option Bool:=(eZ xs).map λys=>ys.any (·==i)
noncomputable def Ag:List FV->Option (List bA)
 |[]=>some []
 |d::r=>d.s?.bind λi=>(Ag r).map (i::·)
def rB(x:bA)(xs:List FV):Option Bool:=(Ag xs).map λys=>ys.any (·==x)
def EV.t?(e:EV):Option (List FV):=(jb e).bind FV.t?
def F_(a:FV)(b:EV):Option Bool:=
 a.i?.elim (a.s?.bind λx=>b.t?.bind (rB x)) λi=>
  b.t?.elim (b.eh.elim (b.L7.elim (b.wZ.bind λes=>some ((es.lookup i).isSome)) λxs=>some (xs.contains i)) (j6 i)) (j6 i)
def UK(a b:EV):Option Bool:=
 (pP a).elim ((L8 a).elim (a.eh.bind λxs=>b.eh.bind λys=>(eZ xs).bind λis=>(eZ ys).bind λjs=>some (decide (is=js))) λx=>(L8 b).map λy=>x==y)
   λx=>(pP b).map λy=>x==y
noncomputable def QA(a b:EV):Bool:=(a.eh.any λxs=> !xs.isEmpty)&&b.eh.any List.isEmpty
noncomputable def zK(d:FV):Bool:=c5 d.ctorIdx 0
def isNone(e:EV):Option Bool:=(jb e).bind λd=>if zK d then some true else d.HS.map λ_=>false
def mR(op:CmpOp)(a b:EV):Option Bool:=
 match op with
 |.Eq=>UK a b
 |.NotEq=>(UK a b).elim (if QA a b then some true else ab) λr=>some (!r)
 |.Lt=>(pP a).bind λx=>(pP b).bind λy=>some (decide (x<y))
 |.LtE=>(pP a).bind λx=>(pP b).bind λy=>some (decide (x<=y))
 |.Gt=>(pP a).bind λx=>(pP b).bind λy=>some (decide (y<x))
 |.GtE=>(pP a).bind λx=>(pP b).bind λy=>some (decide (y<=x))
 |.In=>(jb a).bind λd=>F_ d b
 |.NotIn=>(jb a).bind λd=>(F_ d b).map (!·)
 |.Is=>(jb b).bind λd=>if zK d then isNone a else ab
 |.IsNot=>ab
noncomputable def Fs{α:Type}(xs:List α)(i:Int):Option α:=
 if 0<=i then xs[i.toNat]?else if -(xs.length:Int)<=i then xs[(i+xs.length).toNat]?else ab
noncomputable def BK(i:Int):Bool:=decide (-(2^62)<=i/\i<2^62)
def pick(xs:List FV)(k:Int):Option EV:=if BK k then(Fs xs k).map .fv else ab
def QJ(wl:WL)(k:Int)(d:FV):Option EV:=d.seq?.elim (d.d?.elim (if d.ctorIdx=12 then wl.bind λxs=>pick xs k else ab) λes=>(es.lookup k).map .fv) λxs=>pick xs k
def Wx(k:Int)(o:OB):Option EV:=o.l?.elim (o.d?.bind λes=>(es.lookup k).map .fv) λxs=>pick xs k
def QI(k:Int)(t:OT):Option EV:=t.o?.elim (t.V'.bind λiG=>if BK k then(Fs iG k).map λxs=>.bor (.ob (.list xs))else ab) (Wx k)
def jq(a i:EV)(wl:WL):Option EV:=(pP i).bind λk=>a.by (QJ wl k) (QI k)
def Fm(e:EV):Option (Option Int):=(jb e).bind λd=>if zK d then some ab else d.i?.bind λi=>if 0<=i/\i<2^62 then some (some i)else ab
noncomputable def vh(x:bA)(l u:Option Int):bA:=
 match sliceMade x 0 (l.map λi=>(i,0)) (u.map λi=>(i,0)) ab with
 |.val (.str y _)=>y
 |.str y=>y
 |_=>x
def AW(a lo hi:EV):Option EV:=(Fm lo).bind λl=>(Fm hi).bind λu=>
 (L8 a).elim (a.eh.bind λxs=>if l.isNone then u.bind λk=>if cg xs.length then some (.fv (.list (xs.take k.toNat)))else ab else ab)
   λx=>if cg (vh x l u).cps.size then some (.fv (.str (vh x l u)))else ab
def JP(a:EV):Option EV:=a.eh.bind λxs=>if cg xs.length then some (.fv (.list xs.reverse))else ab
noncomputable def OF.ev:OF->EV
 |.fv d=>.fv d
 |.ob o=>.bor (.ob o)
noncomputable def OF.o?:OF->Option OB
 |.fv _=>ab
 |.ob o=>some o
@[elab_as_elim] theorem OF.zw{P:OF->Prop}{s:OF}{x:OB}(h:s.o?=some x)(k:P (.ob x)):P s:=OF.casesOn (motive:=λo=>o.o?=some x->P o) s (λ_=>nn) (λa h=>sk (P:=λx=>P (.ob x)) h.symm k) h
def mr(a:EV)(k:Nat):Option EV:=a.by (λd=>d.HS.bind λx=>(x.2.lookup k).map .fv) λt=>t.HS.bind λx=>(x.2.lookup k).map OF.ev
noncomputable def oQ(a b c:Int):List Int:=(ae (b8 a b c).toNat).map λ(i:Nat)=>a+(i:Int)*c
def nu(a b c:Int):Bool:=jI a b c&&decide (c≠0)&&cg (b8 a b c).toNat
def fits(xs:List FV):Option (List FV):=if cg xs.length then some xs else ab
def uN(d:FV):Option (List FV):=d.seq?.elim (d.r?.bind λr=>if nu r.1 r.2.1 r.2.2 then some ((oQ r.1 r.2.1 r.2.2).map .int)else ab) fits
def items(e:EV):Option (List FV):=(jb e).bind uN
theorem rF{xs:List FV}(h:xs.length<=2^20):items (.fv (.list xs))=some xs:=if_pos (decide_eq_true h)
theorem HF{a b c:Int}:items (.fv (.range a b c))=if nu a b c=true then some ((oQ a b c).map FV.int)else ab:=rfl
def listItems(a:EV):Option (List FV):=a.by uN λt=>(t.o?.bind OB.l?).bind fits
def Wd(a:EV):Option Nat:=a.by (λd=>d.seq?.map (·.length)) λt=>t.o?.elim (t.V'.map (·.length)) λo=>o.l?.map (·.length)
noncomputable def insertSorted(x:Int):List Int->List Int
 |[]=>[x]
 |y::r=>if x<=y then x::y::r else y::insertSorted x r
def fV:List Int->List Int
 |[]=>[]
 |x::r=>insertSorted x (fV r)
noncomputable def xW(f:EV->Option EV):List EV->Option EV
 |[a]=>f a
 |_=>ab
noncomputable def Il(f:EV->EV->Option EV):List EV->Option EV
 |[a,b]=>f a b
 |_=>ab
noncomputable def Ik(f:EV->EV->EV->Option EV):List EV->Option EV
 |[a,b,c]=>f a b c
 |_=>ab
@[elab_as_elim] theorem qK{f:EV->Option EV}{x:EV}{P:List EV->Prop}{l:List EV}(h:xW f l=some x)(k:∀a,f a=some x->P [a]):P l:=l.casesOn (motive:=λl=>xW f l=some x->P l) nn (λa r=>r.casesOn (motive:=λr=>xW f (a::r)=some x->P (a::r)) (k a) λ_ _=>nn) h
@[elab_as_elim] theorem Ez{f:EV->EV->Option EV}{x:EV}{P:List EV->Prop}{l:List EV}(h:Il f l=some x)(k:∀a b,f a b=some x->P [a,b]):P l:=l.casesOn (motive:=λl=>Il f l=some x->P l) nn (λa r=>r.casesOn (motive:=λr=>Il f (a::r)=some x->P (a::r)) nn λb r=>r.casesOn (motive:=λr=>Il f (a::b::r)=some x->P (a::b::r)) (k a b) λ_ _=>nn) h
@[elab_as_elim] theorem TY{f:EV->EV->EV->Option EV}{x:EV}{P:List EV->Prop}{l:List EV}(h:Ik f l=some x)(k:∀a b c,f a b c=some x->P [a,b,c]):P l:=l.casesOn (motive:=λl=>Ik f l=some x->P l) nn (λa r=>r.casesOn (motive:=λr=>Ik f (a::r)=some x->P (a::r)) nn λb r=>r.casesOn (motive:=λr=>Ik f (a::b::r)=some x->P (a::b::r)) nn λc r=>r.casesOn (motive:=λr=>Ik f (a::b::c::r)=some x->P (a::b::c::r)) (k a b c) λ_ _=>nn) h
def aaV:List EV->Option EV:=xW λa=>(Wd a).bind λn=>if cg n then some (.fv (.int n))else ab
def TV(args:List EV):Option EV:=(xW (λb=>(pP b).map λb=>.fv (.range 0 b 1)) args).or ((Il (λa b=>(pP a).bind λa=>(pP b).map λb=>.fv (.range a b 1)) args).or
 (Ik (λa b c=>(pP a).bind λa=>(pP b).bind λb=>(pP c).bind λc=>if c≠0/\c.natAbs<1073741824 then some (.fv (.range a b c))else ab) args))
def Ci(own:Bool):List EV->Option EV:=xW λa=>(listItems a).map λxs=>if own then .own (.ob (.list xs))else .fv (.list xs)
noncomputable def aaU(own:Bool)(args:List EV):Option EV:=if args.isEmpty&&own then some (.own (.ob (.set [])))else ab
def aaX:List EV->Option EV:=xW λa=>(pP a).map λa=>.fv (.int a.natAbs)
def intOf(e:EV):Option Int:=(jb e).bind λd=>d.i?.elim (d.b?.map λb=>if b then 1 else 0) some
def aaW:List EV->Option EV:=xW λa=>(intOf a).map λa=>.fv (.int a)
def XE(f:Int->Int->Int):List EV->Option EV:=Il λa b=>(pP a).bind λa=>(pP b).map λb=>.fv (.int (f a b))
def aaT:List EV->Option EV:=xW λa=>a.eh.bind λxs=>(eZ xs).bind λis=>if cg is.length then some (.fv (.int is.sum))else ab
def Dl(e:EV):Option (List Int):=(LX e).bind λt=>t.o?.bind OB.Np
def PY:List EV->Option EV:=xW λa=>(Dl a).map λxs=>.fv (.list ((fV xs).map .int))
def ju(b:BI)(own:Bool)(args:List EV):Option EV:=
 match b with
 |.len=>aaV args
 |.range=>TV args
 |.list=>Ci own args
 |.set=>aaU own args
 |.abs=>aaX args
 |.int=>aaW args
 |.max=>XE (λa b=>if b>a then b else a) args
 |.min=>XE (λa b=>if b<a then b else a) args
 |.sum=>aaT args
 |.sorted=>PY args
def xS:List EV->Option (List FV)
 |[]=>some []
 |x::r=>(jb x).bind λd=>(xS r).map (d::·)
noncomputable def Slot.writable:Slot->Bool
 |.unset=>true
 |.val _=>true
 |.own _=>true
 |.ro _=>false
 |.bor _=>false
def setSlot(fr:List Slot)(i:Nat)(x:Slot):Option (List Slot):=(fr[i]?).bind λs=>if s.writable then some (fr.set i x)else ab
def ez:List Slot->List Nat->List FV->Option (List Slot)
 |fr,[],[]=>some fr
 |fr,i::is,d::ds=>(setSlot fr i (.val d)).bind λcJ=>ez cJ is ds
 |_,_,_=>ab
noncomputable def EV.Dh:EV->Option Slot
 |.fv d=>some (.val d)
 |.bor _=>ab
 |.own t=>some (.own t)
def jP:List Slot->List Nat->List EV->Option (List Slot)
 |fr,[],[]=>some fr
 |fr,i::is,e::ds=>e.Dh.bind λsl=>(setSlot fr i sl).bind λcJ=>jP cJ is ds
 |_,_,_=>ab
def c6(fr:List Slot)(f7:List Nat)(d:FV):Option (List Slot):=
 match f7 with
 |[i]=>setSlot fr i (.val d)
 |is=>d.t?.bind λxs=>ez fr is xs
noncomputable def fX(fr:List Slot):List Nat->Option (List Slot)
 |[]=>some []
 |i::r=>(fr[i]?).bind λs=>s.lend.bind λx=>(fX fr r).map (x::·)
noncomputable def Slot.Zv:Slot->Option FV
 |.unset=>ab
 |.val _=>ab
 |.own _=>ab
 |.ro d=>some d
 |.bor _=>ab
noncomputable def Slot.val?:Slot->Option FV
 |.unset=>ab
 |.val d=>some d
 |.own _=>ab
 |.ro _=>ab
 |.bor _=>ab
noncomputable def Slot.own?:Slot->Option OT
 |.unset=>ab
 |.val _=>ab
 |.own t=>some t
 |.ro _=>ab
 |.bor _=>ab
@[elab_as_elim] theorem Slot.VA{P:Slot->Prop}{s:Slot}{x:FV}(h:s.Zv=some x)(k:P (.ro x)):P s:=Slot.casesOn (motive:=λo=>o.Zv=some x->P o) s nn (λ_=>nn) (λ_=>nn) (λa h=>sk (P:=λx=>P (.ro x)) h.symm k) (λ_=>nn) h
@[elab_as_elim] theorem Slot.Je{P:Slot->Prop}{s:Slot}{x:FV}(h:s.val?=some x)(k:P (.val x)):P s:=Slot.casesOn (motive:=λo=>o.val?=some x->P o) s nn (λa h=>sk (P:=λx=>P (.val x)) h.symm k) (λ_=>nn) (λ_=>nn) (λ_=>nn) h
@[elab_as_elim] theorem Slot.vw{P:Slot->Prop}{s:Slot}{x:OT}(h:s.own?=some x)(k:P (.own x)):P s:=Slot.casesOn (motive:=λo=>o.own?=some x->P o) s nn (λ_=>nn) (λa h=>sk (P:=λx=>P (.own x)) h.symm k) (λ_=>nn) (λ_=>nn) h
noncomputable def qI(fr:List Slot):List Nat->Option (List FV)
 |[]=>some []
 |i::r=>(fr[i]?).bind λs=>s.Zv.bind λd=>(qI fr r).map (d::·)
def pM(fr:List Slot):List Nat->List Slot
 |[]=>fr
 |i::r=>((fr[i]?).bind Slot.val?).elim (pM fr r) λd=>pM (fr.set i (.ro d)) r
abbrev my:=FV->List EV->WL->Option (FV×WL)
inductive Fl where
 |next|cont|ret (d:FV)
noncomputable def gC:List bA:=["orders","slots","by_slot","many_slots","subs","code","dst","src","off","imm","more","number","name","kinds","gives",
 "?15","?16","?17","?18","?19","count","goal_slot","target","sub_of","sub_end"]
noncomputable def oV(c k:Nat):Option Nat:=
 if c=490 then(if k=20 then some 454 else if k=21 then some 461 else if k=22 then some 468 else if k=23 then some 475 else if k=24 then some 482 else ab)else ab
def Gf(e:EV):Option Nat:=e.by (λd=>d.HS.map (·.1)) λt=>t.HS.map (·.1)
noncomputable def RT(x:bA):bA:=PySem.Txt.strip x
noncomputable def jv(xs:List Int)(i:Int):List Int:=if xs.contains i then xs else xs++[i]
noncomputable def dD(es:List (Int×FV))(i:Int)(d:FV):List (Int×FV):=
 match es with
 |[]=>[(i,d)]
 |(j,e)::r=>if j=i then(i,d)::r else(j,e)::dD r i d
noncomputable def putField(fs:List (Nat×OF))(k:Nat)(x:OF):List (Nat×OF):=
 match fs with
 |[]=>[(k,x)]
 |(j,e)::r=>if j=k then(k,x)::r else(j,e)::putField r k x
noncomputable def kh{σ:Type}(f:σ->FV->Option σ):List FV->σ->Option σ
 |[],a=>some a
 |x::r,a=>(f a x).bind (kh f r)
def kq(t:Bool)(r:Option (EV×WL)):Option (EV×WL):=match t with
 |true=>r.bind λx=>(iR x.1).map λb=>(.fv (.bool b),x.2)
 |false=>r
def Q8(r:Option (EV×WL)):Option (Bool×WL):=r.bind λx=>((jb x.1).bind FV.b?).map λb=>(b,x.2)
noncomputable def ofT(r:Option (Bool×WL)):Option (EV×WL):=r.map λx=>(.fv (.bool x.1),x.2)
def ZL(x:EV)(ys:List EV):Option EV:=(L8 x).bind λs=>if ys.isEmpty=true/\cg s.cps.size=true then some (.fv (.str (RT s)))else ab
def PH(x:EV)(ys:List EV):Option EV:=(xS ys).bind λds=>(eZ ds).bind λjs=>x.eh.bind λxs=>(eZ xs).bind λis=>match js with
 |[i]=>some (.fv (.int (is.count i)))
 |_=>ab
noncomputable def Kd:List Int->Option (EV)
 |[i]=>if 0<=i/\i<64 then some (.own (.ob (.set [i])))else ab
 |_=>ab
noncomputable def Dt(wl:WL):Option Unit:=if wl.isNone then some ()else ab
def Pu(f7:Nat)(a:List Slot×List (Int×FV)×WL)(f:List Slot->Option (EV×WL))(d:FV):Option (List Slot×List (Int×FV)×WL):=
 d.i?.bind λi=>(c6 a.1 [f7] (.int i)).bind λf_=>(f f_).bind λy=>(jb y.1).map λd=>(f_,dD a.2.1 i d,y.2)
mutual
def lP(C:my):IE->Bool->List Slot->WL->Option (EV×WL)
 |.var i,t,fr,wl=>kq t ((fr[i]?).bind λs=>s.GX.map λe=>(e,wl))
 |.lit d,t,_,wl=>kq t (some (.fv d,wl))
 |.bc d,t,_,wl=>kq t (some (.fv d,wl))
 |.bin op a b,t,fr,wl=>kq t ((lP C a false fr wl).bind λx=>(lP C b false fr x.2).bind λy=>(i7 op x.1 y.1).map λr=>(r,y.2))
 |.un op a,t,fr,wl=>match t&&op==.Not with
  |true=>ofT ((Q8 (lP C a true fr wl)).map λx=>(!x.1,x.2))
  |false=>kq t ((lP C a false fr wl).bind λx=>(Nk op x.1).map λr=>(r,x.2))
 |.ic es,t,fr,wl=>match t with
  |true=>ofT (fI C es fr wl)
  |false=>sT C es fr wl
 |.uJ es,t,fr,wl=>match t with
  |true=>ofT (qt C es fr wl)
  |false=>BY C es fr wl
 |.cmp op a b,t,fr,wl=>kq t ((lP C a false fr wl).bind λx=>(lP C b false fr x.2).bind λy=>(mR op x.1 y.1).map λr=>(.fv (.bool r),y.2))
 |.chain op1 op2 a b c,t,fr,wl=>kq t ((lP C a false fr wl).bind λx=>(lP C b false fr x.2).bind λy=>(mR op1 x.1 y.1).bind λr=>
   if r then(lP C c false fr y.2).bind λz=>(mR op2 y.1 z.1).map λr=>(.fv (.bool r),z.2)else some (.fv (.bool false),y.2))
 |.ite c a b,t,fr,wl=>(Q8 (lP C c true fr wl)).bind λx=>if x.1 then lP C a t fr x.2 else lP C b t fr x.2
 |.idx a i,t,fr,wl=>kq t ((lP C a false fr wl).bind λx=>(lP C i false fr x.2).bind λy=>(jq x.1 y.1 y.2).map λr=>(r,y.2))
 |.xy a lo hi,t,fr,wl=>kq t ((lP C a false fr wl).bind λx=>(lP C lo false fr x.2).bind λy=>(lP C hi false fr y.2).bind λz=>(AW x.1 y.1 z.1).map λr=>(r,z.2))
 |.rev a,t,fr,wl=>kq t ((lP C a false fr wl).bind λx=>(JP x.1).map λr=>(r,x.2))
 |.attr a k,t,fr,wl=>kq t ((lP C a false fr wl).bind λx=>(mr x.1 k).map λr=>(r,x.2))
 |.tup es,t,fr,wl=>kq t ((ox C es fr wl).bind λx=>(xS x.1).map λds=>(.fv (.tup ds),x.2))
 |.lst own es,t,fr,wl=>kq t ((ox C es fr wl).bind λx=>(xS x.1).map λds=>(if own then .own (.ob (.list ds))else .fv (.list ds),x.2))
 |.GV es,t,fr,wl=>kq t ((ox C es fr wl).bind λx=>(xS x.1).bind λds=>(eZ ds).bind λis=>(Kd is).map λr=>(r,x.2))
 |.B2,t,_,wl=>kq t (some (.own (.ob (.dict [])),wl))
 |.vK a b,t,fr,wl=>kq t ((lP C a false fr wl).bind λx=>(lP C b false fr x.2).bind λy=>(jb x.1).bind λp=>(jb y.1).bind λq=>(Dt y.2).map λ_=>(.fv .well,some [p,q]))
 |.call f es,t,fr,wl=>kq t ((lP C f false fr wl).bind λx=>(ox C es fr x.2).bind λy=>(jb x.1).bind λd=>(C d y.1 y.2).map λr=>(.fv r.1,r.2))
 |.bj b own es,t,fr,wl=>kq t ((ox C es fr wl).bind λx=>(ju b own x.1).map λr=>(r,x.2))
 |.ef m o es,t,fr,wl=>kq t ((lP C o false fr wl).bind λx=>(ox C es fr x.2).bind λy=>match m with
   |.strip=>(ZL x.1 y.1).map λr=>(r,y.2)
   |.count=>(PH x.1 y.1).map λr=>(r,y.2)
   |.user k=>(Gf x.1).bind λc=>(oV c k).bind λa=>(C (.obj a) (x.1::y.1) y.2).map λr=>(.fv r.1,r.2))
 |.comp own m aX it f7 ifs rest,t,fr,wl=>kq t ((lP C it false fr wl).bind λx=>(items x.1).bind λvs=>(fX fr aX).bind λcs=>
   (kh (λ(a:List Slot×List FV×WL) v=>(c6 a.1 f7 v).bind λf_=>(fI C ifs f_ a.2.2).bind λt=>
     if t.1 then HW C rest f_ a.2.1 t.2 else some (f_,a.2.1,t.2)) vs (bD m .unset++cs,[],x.2)).bind λr=>
     if cg r.2.1.length then some (if own then .own (.ob (.list r.2.1))else .fv (.list r.2.1),r.2.2)else ab)
 |.sX m aX it f7,t,fr,wl=>kq t ((lP C it false fr wl).bind λx=>(items x.1).bind λvs=>(fX fr aX).bind λ_=>
   if f7<m then some (.own (.gu (vs.map λ_=>[])),x.2)else ab)
 |.rR own m aX it f7 v,t,fr,wl=>kq t ((lP C it false fr wl).bind λx=>(items x.1).bind λvs=>(fX fr aX).bind λcs=>
   (kh (λ(a:List Slot×List (Int×FV)×WL) k=>Pu f7 a (λf_=>lP C v false f_ a.2.2) k) vs (bD m .unset++cs,[],x.2)).bind λr=>
     if cg r.2.1.length then some (if own then .own (.ob (.dict r.2.1))else .fv (.dict r.2.1),r.2.2)else ab)
 |.lam k aX,t,fr,wl=>kq t ((qI fr aX).map λcs=>(.fv (.mB k cs),wl))
def ox(C:my):IL->List Slot->WL->Option (List EV×WL)
 |.nil,_,wl=>some ([],wl)
 |.cons e r,fr,wl=>(lP C e false fr wl).bind λx=>(ox C r fr x.2).map λy=>(x.1::y.1,y.2)
def fI(C:my):IL->List Slot->WL->Option (Bool×WL)
 |.nil,_,wl=>some (true,wl)
 |.cons e r,fr,wl=>(Q8 (lP C e true fr wl)).bind λx=>if x.1 then fI C r fr x.2 else some (false,x.2)
def qt(C:my):IL->List Slot->WL->Option (Bool×WL)
 |.nil,_,wl=>some (false,wl)
 |.cons e r,fr,wl=>(Q8 (lP C e true fr wl)).bind λx=>if x.1 then some (true,x.2)else qt C r fr x.2
def sT(C:my):IL->List Slot->WL->Option (EV×WL)
 |.nil,_,_=>ab
 |.cons e r,fr,wl=>match r with
  |.nil=>lP C e false fr wl
  |.cons _ _=>(lP C e false fr wl).bind λx=>(iR x.1).bind λb=>if b then sT C r fr x.2 else some x
def BY(C:my):IL->List Slot->WL->Option (EV×WL)
 |.nil,_,_=>ab
 |.cons e r,fr,wl=>match r with
  |.nil=>lP C e false fr wl
  |.cons _ _=>(lP C e false fr wl).bind λx=>(iR x.1).bind λb=>if b then some x else BY C r fr x.2
def HW(C:my):IG->List Slot->List FV->WL->Option (List Slot×List FV×WL)
 |.emit e,fr,acc,wl=>(lP C e false fr wl).bind λx=>(jb x.1).map λd=>(fr,acc++[d],x.2)
 |.gen it f7 ifs rest,fr,acc,wl=>(lP C it false fr wl).bind λx=>(items x.1).bind λvs=>
   kh (λ(a:List Slot×List FV×WL) v=>(c6 a.1 f7 v).bind λf_=>(fI C ifs f_ a.2.2).bind λt=>
    if t.1 then HW C rest f_ a.2.1 t.2 else some (f_,a.2.1,t.2)) vs (fr,acc,x.2)
end
def ev(C:my)(e:IE)(fr:List Slot)(wl:WL):Option (EV×WL):=lP C e false fr wl
def eK(C:my)(e:IE)(fr:List Slot)(wl:WL):Option (Bool×WL):=Q8 (lP C e true fr wl)
section
variable {C:my}{fr:List Slot}{wl:WL}
theorem fi:ev C (.var i) fr wl=(fr[i]?).bind λs=>s.GX.map λe=>(e,wl):=rfl
theorem Lu{op:Operator}{a b:IE}:ev C (.bin op a b) fr wl=(ev C a fr wl).bind λx=>(ev C b fr x.2).bind λy=>(i7 op x.1 y.1).map λr=>(r,y.2):=rfl
theorem Q1{op:UnaryOp}{a:IE}:ev C (.un op a) fr wl=(ev C a fr wl).bind λx=>(Nk op x.1).map λr=>(r,x.2):=rfl
theorem Pn{es:IL}:ev C (.ic es) fr wl=sT C es fr wl:=rfl
theorem z4{a b:IE}:ev C (.cmp op a b) fr wl=(ev C a fr wl).bind λx=>(ev C b fr x.2).bind λy=>(mR op x.1 y.1).map λr=>(.fv (.bool r),y.2):=rfl
theorem BW{a b c:IE}:ev C (.chain o1 o2 a b c) fr wl=(ev C a fr wl).bind λx=>(ev C b fr x.2).bind λy=>(mR o1 x.1 y.1).bind λr=>
 if r then(ev C c fr y.2).bind λz=>(mR o2 y.1 z.1).map λr=>(.fv (.bool r),z.2)else some (.fv (.bool false),y.2):=rfl
theorem D_{t a b:IE}:ev C (.ite t a b) fr wl=(eK C t fr wl).bind λx=>if x.1 then ev C a fr x.2 else ev C b fr x.2:=rfl
theorem Lp{a i:IE}:ev C (.idx a i) fr wl=(ev C a fr wl).bind λx=>(ev C i fr x.2).bind λy=>(jq x.1 y.1 y.2).map λr=>(r,y.2):=rfl
theorem Lk{a lo hi:IE}:ev C (.xy a lo hi) fr wl=(ev C a fr wl).bind λx=>(ev C lo fr x.2).bind λy=>(ev C hi fr y.2).bind λz=>(AW x.1 y.1 z.1).map λr=>(r,z.2):=rfl
theorem Lm{a:IE}:ev C (.rev a) fr wl=(ev C a fr wl).bind λx=>(JP x.1).map λr=>(r,x.2):=rfl
theorem FZ{a:IE}:ev C (.attr a k) fr wl=(ev C a fr wl).bind λx=>(mr x.1 k).map λr=>(r,x.2):=rfl
theorem Lj{es:IL}:ev C (.tup es) fr wl=(ox C es fr wl).bind λx=>(xS x.1).map λds=>(.fv (.tup ds),x.2):=rfl
theorem Ln{own:Bool}{es:IL}:ev C (.lst own es) fr wl=(ox C es fr wl).bind λx=>(xS x.1).map λds=>(if own then .own (.ob (.list ds))else .fv (.list ds),x.2):=rfl
theorem Pm{es:IL}:ev C (.GV es) fr wl=(ox C es fr wl).bind λx=>(xS x.1).bind λds=>(eZ ds).bind λis=>(Kd is).map λr=>(r,x.2):=rfl
theorem yJ{a b:IE}:ev C (.vK a b) fr wl=(ev C a fr wl).bind λx=>(ev C b fr x.2).bind λy=>(jb x.1).bind λp=>(jb y.1).bind λq=>(Dt y.2).map λ_=>(.fv .well,some [p,q]):=rfl
theorem FY{f:IE}{es:IL}:ev C (.call f es) fr wl=(ev C f fr wl).bind λx=>(ox C es fr x.2).bind λy=>(jb x.1).bind λd=>(C d y.1 y.2).map λr=>(.fv r.1,r.2):=rfl
theorem Lv{b:BI}{own:Bool}{es:IL}:ev C (.bj b own es) fr wl=(ox C es fr wl).bind λx=>(ju b own x.1).map λr=>(r,x.2):=rfl
theorem Ls{o:IE}{es:IL}:ev C (.ef .count o es) fr wl=(ev C o fr wl).bind λx=>(ox C es fr x.2).bind λy=>(PH x.1 y.1).map λr=>(r,y.2):=rfl
theorem FX{o:IE}{es:IL}:ev C (.ef (.user k) o es) fr wl=(ev C o fr wl).bind λx=>(ox C es fr x.2).bind λy=>(Gf x.1).bind λc=>(oV c k).bind λa=>(C (.obj a) (x.1::y.1) y.2).map λr=>(.fv r.1,r.2):=rfl
theorem z3{own:Bool}{it:IE}{ifs:IL}{rest:IG}:ev C (.comp own m aX it f7 ifs rest) fr wl=(ev C it fr wl).bind λx=>(items x.1).bind λvs=>(fX fr aX).bind λcs=>
 (kh (λ(a:List Slot×List FV×WL) v=>(c6 a.1 f7 v).bind λf_=>(fI C ifs f_ a.2.2).bind λt=>
   if t.1 then HW C rest f_ a.2.1 t.2 else some (f_,a.2.1,t.2)) vs (bD m .unset++cs,[],x.2)).bind λr=>
   if cg r.2.1.length then some (if own then .own (.ob (.list r.2.1))else .fv (.list r.2.1),r.2.2)else ab:=rfl
theorem HV{f7:Nat}{it:IE}:ev C (.sX m aX it f7) fr wl=(ev C it fr wl).bind λx=>(items x.1).bind λvs=>(fX fr aX).bind λ_=>
 if f7<m then some (.own (.gu (vs.map λ_=>[])),x.2)else ab:=rfl
theorem Lq{own:Bool}{f7:Nat}{it v:IE}:ev C (.rR own m aX it f7 v) fr wl=(ev C it fr wl).bind λx=>(items x.1).bind λvs=>(fX fr aX).bind λcs=>
 (kh (λ(a:List Slot×List (Int×FV)×WL) k=>Pu f7 a (λf_=>ev C v f_ a.2.2) k) vs (bD m .unset++cs,[],x.2)).bind λr=>
   if cg r.2.1.length then some (if own then .own (.ob (.dict r.2.1))else .fv (.dict r.2.1),r.2.2)else ab:=rfl
theorem TH:ev C (.lam k aX) fr wl=(qI fr aX).map λcs=>(.fv (.mB k cs),wl):=rfl
theorem Af{r:Option (Bool×WL)}:Q8 (ofT r)=r:=by induction r using aA<;>rfl
theorem dg{e:IE}(h:lP C e true fr wl=kq true (lP C e false fr wl)):eK C e fr wl=(ev C e fr wl).bind λx=>(iR x.1).map λb=>(b,x.2):=by
 delta eK ev;refine eW h ?_;induction lP C e false fr wl using aA with
 |none=>rfl
 |some x=>
  show Q8 ((iR x.1).map _)=(iR x.1).map _;induction iR x.1 using aA<;>rfl
theorem F7{a:IE}:eK C (.un .Not a) fr wl=(eK C a fr wl).map λx=>(!x.1,x.2):=Af
theorem BX{es:IL}:eK C (.ic es) fr wl=fI C es fr wl:=Af
theorem F6{es:IL}:eK C (.uJ es) fr wl=qt C es fr wl:=Af
theorem Po{t a b:IE}:eK C (.ite t a b) fr wl=(eK C t fr wl).bind λx=>if x.1 then eK C a fr x.2 else eK C b fr x.2:=by
 show Q8 ((eK C t fr wl).bind _)=_;induction eK C t fr wl using aA with
 |none=>rfl
 |some x=>obtain⟨b,w⟩:=x;induction b using ax<;>rfl
theorem yU{α β γ:Type}{o:Option α}{f:α->Option β}{g:β->Option γ}{k:α->Option γ}(h:∀a,(f a).bind g=k a):(o.bind f).bind g=o.bind k:=o.casesOn rfl h
theorem V4{α β γ:Type}{o:Option α}{f:α->β}{g:β->Option γ}{k:α->γ}(h:∀a,g (f a)=some (k a)):(o.map f).bind g=o.map k:=o.casesOn rfl h
theorem Pp{a b:IE}:eK C (.cmp op a b) fr wl=(ev C a fr wl).bind λx=>(ev C b fr x.2).bind λy=>(mR op x.1 y.1).map λr=>(r,y.2):=
 (dg rfl).trans ((congrArg (Uj · _) z4).trans (yU λ_=>yU λ_=>V4 λ_=>rfl))
theorem yK{a b c:IE}:eK C (.chain o1 o2 a b c) fr wl=(ev C a fr wl).bind λx=>(ev C b fr x.2).bind λy=>(mR o1 x.1 y.1).bind λr=>
 if r then(ev C c fr y.2).bind λz=>(mR o2 y.1 z.1).map λr=>(r,z.2)else some (false,y.2):=
 (dg rfl).trans ((congrArg (Uj · _) BW).trans (yU λ_=>yU λ_=>yU λr=>r.casesOn rfl (yU λ_=>V4 λ_=>rfl)))
theorem F8:ox C .nil fr wl=some ([],wl):=rfl
theorem ku{e:IE}{r:IL}:ox C (.cons e r) fr wl=(ev C e fr wl).bind λx=>(ox C r fr x.2).map λy=>(x.1::y.1,y.2):=rfl
theorem yL:fI C .nil fr wl=some (true,wl):=rfl
theorem nM{e:IE}{r:IL}:fI C (.cons e r) fr wl=(eK C e fr wl).bind λx=>if x.1 then fI C r fr x.2 else some (false,x.2):=rfl
theorem Eb{e:IE}{r:IL}:qt C (.cons e r) fr wl=(eK C e fr wl).bind λx=>if x.1 then some (true,x.2)else qt C r fr x.2:=rfl
theorem tU{e e':IE}{r:IL}:sT C (.cons e (.cons e' r)) fr wl=(ev C e fr wl).bind λx=>(iR x.1).bind λb=>if b then sT C (.cons e' r) fr x.2 else some x:=rfl
theorem Ea{e e':IE}{r:IL}:BY C (.cons e (.cons e' r)) fr wl=(ev C e fr wl).bind λx=>(iR x.1).bind λb=>if b then some x else BY C (.cons e' r) fr x.2:=rfl
theorem wB{e:IE}{acc:List FV}:HW C (.emit e) fr acc wl=(ev C e fr wl).bind λx=>(jb x.1).map λd=>(fr,acc++[d],x.2):=rfl
theorem z5{it:IE}{ifs:IL}{rest:IG}{acc:List FV}:HW C (.gen it f7 ifs rest) fr acc wl=(ev C it fr wl).bind λx=>(items x.1).bind λvs=>
 kh (λ(a:List Slot×List FV×WL) v=>(c6 a.1 f7 v).bind λf_=>(fI C ifs f_ a.2.2).bind λt=>
  if t.1 then HW C rest f_ a.2.1 t.2 else some (f_,a.2.1,t.2)) vs (fr,acc,x.2):=rfl
end
noncomputable def Fl.zL:Fl->Bool
 |.next=>true
 |.cont=>false
 |.ret _=>false
noncomputable def Fl.brk:Fl->Option FV
 |.next=>ab
 |.cont=>ab
 |.ret d=>some d
noncomputable def y9{σ:Type}(t:σ->Option (Bool×σ))(b:σ->Option (Fl×σ)):Nat->σ->Option (Fl×σ)
 |0,_=>ab
 |n+1,a=>(t a).bind λx=>if x.1 then(b x.2).bind λy=>y.1.brk.elim (y9 t b n y.2) λd=>some (.ret d,y.2)
  else some (.next,x.2)
noncomputable def forL{σ:Type}(b:σ->FV->Option (Fl×σ)):List FV->σ->Option (Fl×σ)
 |[],a=>some (.next,a)
 |x::r,a=>(b a x).bind λy=>y.1.brk.elim (forL b r y.2) λd=>some (.ret d,y.2)
noncomputable def Lh{σ:Type}(b:σ->Int->FV->Option (Fl×σ)):List FV->Int->σ->Option (Fl×σ)
 |[],_,a=>some (.next,a)
 |x::r,i,a=>(b a i x).bind λy=>y.1.brk.elim (Lh b r (i+1) y.2) λd=>some (.ret d,y.2)
def kD(C:my)(p:Path)(fr:List Slot)(wl:WL):Option ((OB×(OB->List Slot))×WL):=
 match p with
 |.v i=>((fr[i]?).bind Slot.own?).bind λt=>t.o?.map λo=>((o,λo'=>fr.set i (.own (.ob o'))),wl)
 |.at i e=>((fr[i]?).bind Slot.own?).bind λt=>t.V'.bind λiG=>(ev C e fr wl).bind λx=>(pP x.1).bind λk=>if 0<=k/\k<2^62 then
   (iG[k.toNat]?).map λxs=>((.list xs,λo'=>(o'.l?).elim fr λys=>fr.set i (.own (.gu (iG.set k.toNat ys)))),x.2)else ab
 |.fld i k=>((fr[i]?).bind Slot.own?).bind λt=>t.HS.bind λcf=>((cf.2.lookup k).bind OF.o?).map λo=>((o,λo'=>fr.set i (.own (.inst cf.1 (putField cf.2 k (.ob o'))))),wl)
abbrev St:=List Slot×WL
def Zk(fr:List Slot)(j:Nat)(d:FV)(k:Int)(wl:WL)(s:Slot):Option (Fl×St):=
 s.val?.elim (s.own?.bind λt=>t.o?.bind λo=>o.l?.elim (o.d?.bind λes=>if cg es.length then some (.next,fr.set j (.own (.ob (.dict (dD es k d)))),wl)else ab)
  λxs=>if 0<=k/\k.toNat<xs.length/\k<2^62 then some (.next,fr.set j (.own (.ob (.list (xs.set k.toNat d)))),wl)else ab)
  λw=>if w.ctorIdx=12 then wl.bind λxs=>if 0<=k/\k.toNat<xs.length/\k<2^62 then some (.next,fr,some (xs.set k.toNat d))else ab else ab
noncomputable def EV.of?:EV->Option OF
 |.fv d=>some (.fv d)
 |.bor _=>ab
 |.own t=>t.o?.map .ob
mutual
def ex(C:my)(N:Nat):IS->St->Option (Fl×St)
 |.assign i e,a=>(ev C e a.1 a.2).bind λx=>x.1.Dh.bind λsl=>(setSlot a.1 i sl).map λfr=>(.next,fr,x.2)
 |.unpack is e,a=>(ev C e a.1 a.2).bind λx=>x.1.t?.bind λds=>(ez a.1 is ds).map λfr=>(.next,fr,x.2)
 |.jk is es,a=>(ox C es a.1 a.2).bind λx=>(jP a.1 is x.1).map λfr=>(.next,fr,x.2)
 |.fW p i e,a=>(ev C e a.1 a.2).bind λx=>(jb x.1).bind λd=>match p with
   |.v j=>(a.1[j]?).bind λs=>(ev C i a.1 x.2).bind λy=>(pP y.1).bind λk=>Zk a.1 j d k y.2 s
   |.fld j f=>(kD C (.fld j f) a.1 x.2).bind λo=>(ev C i a.1 o.2).bind λy=>(pP y.1).bind λk=>o.1.1.d?.bind λes=>if cg es.length then some (.next,o.1.2 (.dict (dD es k d)),y.2)else ab
   |.at _ _=>ab
 |.setAttr i k e,a=>(ev C e a.1 a.2).bind λx=>((a.1[i]?).bind Slot.own?).bind λt=>t.HS.bind λcf=>if cf.2.length<900 then x.1.of?.map λf=>(.next,a.1.set i (.own (.inst cf.1 (putField cf.2 k f))),x.2)else ab
 |.append p e,a=>(kD C p a.1 a.2).bind λo=>(ev C e a.1 o.2).bind λx=>(jb x.1).bind λd=>o.1.1.l?.bind λxs=>if cg xs.length then some (.next,o.1.2 (.list (xs++[d])),x.2)else ab
 |.extend p e,a=>(kD C p a.1 a.2).bind λo=>(ev C e a.1 o.2).bind λx=>((jb x.1).bind FV.l?).bind λds=>o.1.1.l?.bind λxs=>if cg (xs.length+ds.length)then some (.next,o.1.2 (.list (xs++ds)),x.2)else ab
 |.add p e,a=>(kD C p a.1 a.2).bind λo=>(ev C e a.1 o.2).bind λx=>(pP x.1).bind λk=>o.1.1.Np.bind λxs=>if xs.length<4/\0<=k/\k<64 then some (.next,o.1.2 (.set (jv xs k)),x.2)else ab
 |.pop is single i,a=>(((a.1[i]?).bind Slot.own?).bind λt=>t.o?.bind OB.l?).bind λxs=>(xs.getLast?).bind λd=>if cg xs.length then
   (if single then(match is with|[j]=>setSlot (a.1.set i (.own (.ob (.list xs.dropLast)))) j (.val d)|_=>ab)else d.t?.bind λds=>ez (a.1.set i (.own (.ob (.list xs.dropLast)))) is ds).map λcJ=>(.next,cJ,a.2)else ab
 |.run e,a=>(ev C e a.1 a.2).bind λx=>(jb x.1).map λ_=>(.next,a.1,x.2)
 |.ite t b1 b2,a=>(eK C t a.1 a.2).bind λx=>if x.1 then hU C N b1 (a.1,x.2)else hU C N b2 (a.1,x.2)
 |.while t b,a=>y9 (λa=>(eK C t a.1 a.2).map λx=>(x.1,a.1,x.2)) (λa=>hU C N b a) N a
 |.for is it b,a=>(ev C it a.1 a.2).bind λx=>(items x.1).bind λvs=>
   forL (λa v=>(c6 a.1 is v).bind λfr=>hU C N b (fr,a.2)) vs (a.1,x.2)
 |.kS i j it b,a=>(ev C it a.1 a.2).bind λx=>(((jb x.1).bind FV.l?).bind fits).bind λvs=>
   Lh (λa n v=>(ez a.1 [i,j] [.int n,v]).bind λfr=>hU C N b (fr,a.2)) vs 0 (a.1,x.2)
 |.ret e,a=>(ev C e a.1 a.2).bind λx=>(jb x.1).map λd=>(.ret d,a.1,x.2)
 |.cont,a=>some (.cont,a)
 |.fail,_=>ab
 |.fz i,a=>((a.1[i]?).bind Slot.own?).map λt=>(.next,a.1.set i (.val t.fz),a.2)
 |.lock aX,a=>some (.next,pM a.1 aX,a.2)
 |.defn i k aX,a=>(qI a.1 aX).bind λcs=>(setSlot a.1 i (.val (.mB k cs))).map λfr=>(.next,fr,a.2)
def hU(C:my)(N:Nat):IB->St->Option (Fl×St)
 |.nil,a=>some (.next,a)
 |.cons s r,a=>(ex C N s a).bind λx=>if x.1.zL then hU C N r x.2 else some x
end
inductive Body where
 |stmts (b:IB)|expr (e:IE)
structure bw where
 params:Nat
 dflt:List FV
 names:List bA
 body:Body
noncomputable def bw.n(f:bw):Nat:=f.names.length
def lD(f:bw)(aX:List FV)(args:List EV):Option (List Slot):=
 if args.length<=f.params/\f.params<=args.length+f.dflt.length/\f.params+aX.length<=f.n then
  some (args.map EV.arg++(f.dflt.drop (f.dflt.length-(f.params-args.length))).map Slot.val++bD (f.n-f.params-aX.length) Slot.unset++aX.map Slot.ro)
 else ab
noncomputable def Fl.out:Fl->Option FV
 |.next=>some .none
 |.cont=>ab
 |.ret d=>some d
def C6(C:my)(N:Nat)(f:bw)(aX:List FV)(args:List EV)(wl:WL):Option (FV×WL):=
 (lD f aX args).bind λfr=>match f.body with
 |.stmts b=>(hU C N b (fr,wl)).bind λx=>x.1.out.map λd=>(d,x.2.2)
 |.expr e=>(ev C e fr wl).bind λx=>(jb x.1).map λd=>(d,x.2)
def made(x:Fl×St):Option (FV×WL):=if x.1.zL then((x.2.1[0]?).bind Slot.own?).bind λt=>t.HS.map λcf=>((OT.inst cf.1 cf.2).fz,x.2.2)else ab
def runC(C:my)(N:Nat)(c:Nat)(f:bw)(args:List EV)(wl:WL):Option (FV×WL):=
 (lD f [] (.own (.inst c [])::args)).bind λfr=>match f.body with
 |.stmts b=>(hU C N b (fr,wl)).bind made
 |.expr _=>ab
set_option genCtorIdx true
variable{d:FV}{f:bw}{xs acc ds ys:List FV}{fr cJ gU:List Slot}{wl bQ:WL}{t:OT}{q:Path}{iG:List (List FV)}{fs:List (Nat×OF)}{sl:Slot}{bp:my}{ir ie:IE}{il:IL}{f1 fl:Fl}{o':OB}
noncomputable def zW:bw:=⟨1,[],[aa "worth",aa "count",aa "step"],.stmts (.cons (.assign 1 (.lit (.int 0))) (.cons (.while (.cmp .Gt (.var 0) (.lit (.int 0))) (.cons (.assign 2 (.ite (.cmp .Gt (.var 0) (.lit (.int 255))) (.lit (.int 8)) (.lit (.int 1)))) (.cons (.assign 0 (.bin .RShift (.var 0) (.var 2))) (.cons (.assign 1 (.bin .Add (.var 1) (.var 2))) .nil)))) (.cons (.ret (.var 1)) .nil)))⟩
noncomputable def jT:bw:=⟨5,[],[aa "self",aa "number",aa "name",aa "kinds",aa "gives"],.stmts (.cons (.setAttr 0 11 (.var 1)) (.cons (.setAttr 0 12 (.var 2)) (.cons (.setAttr 0 13 (.var 3)) (.cons (.setAttr 0 14 (.var 4)) .nil))))⟩
noncomputable def wa:bw:=⟨0,[],[],.stmts (.cons (.ret (.lst false (.cons (.tup (.cons (.bc (.int 1)) (.cons (.lit (.str (aa "map_lookup_elem"))) (.cons (.tup (.cons (.lit (.str (aa "map"))) (.cons (.lit (.str (aa "key"))) .nil))) (.cons (.lit (.str (aa "value_or_null"))) .nil))))) (.cons (.tup (.cons (.bc (.int 2)) (.cons (.lit (.str (aa "map_update_elem"))) (.cons (.tup (.cons (.lit (.str (aa "map"))) (.cons (.lit (.str (aa "key"))) (.cons (.lit (.str (aa "value"))) (.cons (.lit (.str (aa "any"))) .nil))))) (.cons (.lit (.str (aa "number"))) .nil))))) (.cons (.tup (.cons (.bc (.int 3)) (.cons (.lit (.str (aa "map_delete_elem"))) (.cons (.tup (.cons (.lit (.str (aa "map"))) (.cons (.lit (.str (aa "key"))) .nil))) (.cons (.lit (.str (aa "number"))) .nil))))) (.cons (.tup (.cons (.bc (.int 5)) (.cons (.lit (.str (aa "ktime_get_ns"))) (.cons (.tup .nil) (.cons (.lit (.str (aa "number"))) .nil))))) (.cons (.tup (.cons (.bc (.int 6)) (.cons (.lit (.str (aa "trace_printk"))) (.cons (.tup (.cons (.lit (.str (aa "mem"))) (.cons (.lit (.str (aa "size"))) .nil))) (.cons (.lit (.str (aa "number"))) .nil))))) (.cons (.tup (.cons (.bc (.int 7)) (.cons (.lit (.str (aa "get_prandom_u32"))) (.cons (.tup .nil) (.cons (.lit (.str (aa "number"))) .nil))))) (.cons (.tup (.cons (.bc (.int 8)) (.cons (.lit (.str (aa "get_smp_processor_id"))) (.cons (.tup .nil) (.cons (.lit (.str (aa "number"))) .nil))))) (.cons (.tup (.cons (.bc (.int 87)) (.cons (.lit (.str (aa "map_push_elem"))) (.cons (.tup (.cons (.lit (.str (aa "map"))) (.cons (.lit (.str (aa "value"))) (.cons (.lit (.str (aa "any"))) .nil)))) (.cons (.lit (.str (aa "number"))) .nil))))) (.cons (.tup (.cons (.bc (.int 88)) (.cons (.lit (.str (aa "map_pop_elem"))) (.cons (.tup (.cons (.lit (.str (aa "map"))) (.cons (.lit (.str (aa "out_value"))) .nil))) (.cons (.lit (.str (aa "number"))) .nil))))) (.cons (.tup (.cons (.bc (.int 89)) (.cons (.lit (.str (aa "map_peek_elem"))) (.cons (.tup (.cons (.lit (.str (aa "map"))) (.cons (.lit (.str (aa "out_value"))) .nil))) (.cons (.lit (.str (aa "number"))) .nil))))) (.cons (.tup (.cons (.bc (.int 130)) (.cons (.lit (.str (aa "ringbuf_output"))) (.cons (.tup (.cons (.lit (.str (aa "map"))) (.cons (.lit (.str (aa "mem"))) (.cons (.lit (.str (aa "size"))) (.cons (.lit (.str (aa "any"))) .nil))))) (.cons (.lit (.str (aa "number"))) .nil))))) (.cons (.tup (.cons (.bc (.int 131)) (.cons (.lit (.str (aa "ringbuf_reserve"))) (.cons (.tup (.cons (.lit (.str (aa "map"))) (.cons (.lit (.str (aa "constant"))) (.cons (.lit (.str (aa "any"))) .nil)))) (.cons (.lit (.str (aa "room_or_null"))) .nil))))) (.cons (.tup (.cons (.bc (.int 132)) (.cons (.lit (.str (aa "ringbuf_submit"))) (.cons (.tup (.cons (.lit (.str (aa "room"))) (.cons (.lit (.str (aa "any"))) .nil))) (.cons (.lit (.str (aa "nothing"))) .nil))))) (.cons (.tup (.cons (.bc (.int 133)) (.cons (.lit (.str (aa "ringbuf_discard"))) (.cons (.tup (.cons (.lit (.str (aa "room"))) (.cons (.lit (.str (aa "any"))) .nil))) (.cons (.lit (.str (aa "nothing"))) .nil))))) .nil)))))))))))))))) .nil)⟩
noncomputable def zT:bw:=⟨1,[],[aa "number",aa "row"],.stmts (.cons (.for [1] (.call (.bc (.obj 108)) .nil) (.cons (.ite (.cmp .Eq (.idx (.var 1) (.lit (.int 0))) (.var 0)) (.cons (.ret (.call (.bc (.obj 97)) (.cons (.idx (.var 1) (.lit (.int 0))) (.cons (.idx (.var 1) (.lit (.int 1))) (.cons (.idx (.var 1) (.lit (.int 2))) (.cons (.idx (.var 1) (.lit (.int 3))) .nil)))))) .nil) .nil) .nil)) (.cons (.ret (.lit .none)) .nil))⟩
noncomputable def kC:bw:=⟨7,[(.int 0)],[aa "self",aa "code",aa "dst",aa "src",aa "off",aa "imm",aa "more"],.stmts (.cons (.setAttr 0 5 (.var 1)) (.cons (.setAttr 0 6 (.var 2)) (.cons (.setAttr 0 7 (.var 3)) (.cons (.setAttr 0 8 (.var 4)) (.cons (.setAttr 0 9 (.var 5)) (.cons (.setAttr 0 10 (.var 6)) .nil))))))⟩
noncomputable def BG:bw:=⟨1,[],[aa "order",aa "at"],.stmts (.cons (.assign 1 (.bin .Mult (.lit (.int 5)) (.bin .BitAnd (.attr (.var 0) 5) (.lit (.int 7))))) (.cons (.ret (.ef .strip (.xy (.bc (.str (aa "ld   ldx  st   stx  alu  jmp  jmp32alu64"))) (.var 1) (.bin .Add (.var 1) (.lit (.int 5)))) .nil)) .nil))⟩
noncomputable def HK:bw:=⟨1,[],[aa "order",aa "kind"],.stmts (.cons (.assign 1 (.bin .BitAnd (.attr (.var 0) 5) (.lit (.int 7)))) (.cons (.ret (.uJ (.cons (.cmp .Eq (.var 1) (.bc (.int 4))) (.cons (.cmp .Eq (.var 1) (.bc (.int 7))) .nil)))) .nil))⟩
noncomputable def xN:bw:=⟨1,[],[aa "order",aa "kind"],.stmts (.cons (.assign 1 (.bin .BitAnd (.attr (.var 0) 5) (.lit (.int 7)))) (.cons (.ret (.uJ (.cons (.cmp .Eq (.var 1) (.bc (.int 5))) (.cons (.cmp .Eq (.var 1) (.bc (.int 6))) .nil)))) .nil))⟩
noncomputable def zN:bw:=⟨1,[],[aa "order",aa "at"],.stmts (.cons (.assign 1 (.bin .RShift (.attr (.var 0) 5) (.lit (.int 4)))) (.cons (.ite (.cmp .GtE (.var 1) (.bc (.int 14))) (.cons (.ret (.lit (.str (aa "")))) .nil) .nil) (.cons (.ite (.call (.bc (.obj 158)) (.cons (.var 0) .nil)) (.cons (.ret (.ef .strip (.xy (.bc (.str (aa "add sub mul div or  and lsh rsh neg mod xor mov arshend "))) (.bin .Mult (.lit (.int 4)) (.var 1)) (.bin .Add (.bin .Mult (.lit (.int 4)) (.var 1)) (.lit (.int 4)))) .nil)) .nil) .nil) (.cons (.ite (.call (.bc (.obj 165)) (.cons (.var 0) .nil)) (.cons (.ret (.ef .strip (.xy (.bc (.str (aa "ja  eq  gt  ge  set ne  sgt sge callexitlt  le  slt sle "))) (.bin .Mult (.lit (.int 4)) (.var 1)) (.bin .Add (.bin .Mult (.lit (.int 4)) (.var 1)) (.lit (.int 4)))) .nil)) .nil) .nil) (.cons (.ret (.lit (.str (aa "")))) .nil)))))⟩
noncomputable def v_:bw:=⟨1,[],[aa "order"],.stmts (.cons (.ret (.cmp .NotEq (.bin .BitAnd (.attr (.var 0) 5) (.bc (.int 8))) (.lit (.int 0)))) .nil)⟩
noncomputable def Bz:bw:=⟨1,[],[aa "order",aa "bits"],.stmts (.cons (.assign 1 (.bin .BitAnd (.attr (.var 0) 5) (.lit (.int 24)))) (.cons (.ite (.cmp .Eq (.var 1) (.lit (.int 0))) (.cons (.ret (.lit (.int 4))) .nil) .nil) (.cons (.ite (.cmp .Eq (.var 1) (.lit (.int 8))) (.cons (.ret (.lit (.int 2))) .nil) .nil) (.cons (.ret (.ite (.cmp .Eq (.var 1) (.lit (.int 16))) (.lit (.int 1)) (.lit (.int 8)))) .nil))))⟩
noncomputable def DS:bw:=⟨1,[],[aa "order"],.stmts (.cons (.ret (.cmp .Eq (.attr (.var 0) 5) (.bc (.int 24)))) .nil)⟩
noncomputable def DU:bw:=⟨1,[],[aa "order"],.stmts (.cons (.ret (.ic (.cons (.call (.bc (.obj 165)) (.cons (.var 0) .nil)) (.cons (.cmp .Eq (.bin .BitAnd (.attr (.var 0) 5) (.lit (.int 240))) (.lit (.int 0))) .nil)))) .nil)⟩
noncomputable def DW:bw:=⟨1,[],[aa "order"],.stmts (.cons (.ret (.cmp .Eq (.attr (.var 0) 5) (.bc (.int 133)))) .nil)⟩
noncomputable def sJ:bw:=⟨1,[],[aa "order"],.stmts (.cons (.ret (.ic (.cons (.cmp .Eq (.attr (.var 0) 5) (.bc (.int 133))) (.cons (.cmp .Eq (.attr (.var 0) 7) (.lit (.int 1))) .nil)))) .nil)⟩
noncomputable def DV:bw:=⟨1,[],[aa "order"],.stmts (.cons (.ret (.cmp .Eq (.attr (.var 0) 5) (.bc (.int 149)))) .nil)⟩
noncomputable def zR:bw:=⟨1,[],[aa "order"],.stmts (.cons (.ret (.ic (.cons (.call (.bc (.obj 165)) (.cons (.var 0) .nil)) (.cons (.un .Not (.call (.bc (.obj 200)) (.cons (.var 0) .nil))) (.cons (.un .Not (.call (.bc (.obj 207)) (.cons (.var 0) .nil))) (.cons (.un .Not (.call (.bc (.obj 221)) (.cons (.var 0) .nil))) .nil)))))) .nil)⟩
noncomputable def DT:bw:=⟨1,[],[aa "order"],.stmts (.cons (.ret (.cmp .Eq (.bin .BitAnd (.attr (.var 0) 5) (.lit (.int 7))) (.bc (.int 1)))) .nil)⟩
noncomputable def BB:bw:=⟨1,[],[aa "order",aa "kind"],.stmts (.cons (.assign 1 (.bin .BitAnd (.attr (.var 0) 5) (.lit (.int 7)))) (.cons (.ret (.ic (.cons (.uJ (.cons (.cmp .Eq (.var 1) (.bc (.int 2))) (.cons (.cmp .Eq (.var 1) (.bc (.int 3))) .nil))) (.cons (.cmp .Eq (.bin .BitAnd (.attr (.var 0) 5) (.lit (.int 224))) (.bc (.int 96))) .nil)))) .nil))⟩
noncomputable def zS:bw:=⟨1,[],[aa "order"],.stmts (.cons (.ret (.ic (.cons (.cmp .Eq (.bin .BitAnd (.attr (.var 0) 5) (.lit (.int 7))) (.bc (.int 3))) (.cons (.cmp .Eq (.bin .BitAnd (.attr (.var 0) 5) (.lit (.int 224))) (.bc (.int 192))) .nil)))) .nil)⟩
noncomputable def BE:bw:=⟨1,[],[aa "order"],.stmts (.cons (.ite (.uJ (.cons (.call (.bc (.obj 214)) (.cons (.var 0) .nil)) (.cons (.cmp .Eq (.attr (.var 0) 5) (.bc (.int 6))) .nil))) (.cons (.ret (.attr (.var 0) 9)) .nil) .nil) (.cons (.ret (.attr (.var 0) 8)) .nil))⟩
noncomputable def we:bw:=⟨1,[],[aa "order",aa "plain",aa "name"],.stmts (.cons (.ite (.cmp .Eq (.attr (.var 0) 9) (.bc (.int 225))) (.cons (.ret (.lit (.str (aa "xchg")))) .nil) .nil) (.cons (.ite (.cmp .Eq (.attr (.var 0) 9) (.bc (.int 241))) (.cons (.ret (.lit (.str (aa "cmpxchg")))) .nil) .nil) (.cons (.assign 1 (.bin .BitAnd (.attr (.var 0) 9) (.un .Invert (.bc (.int 1))))) (.cons (.assign 2 (.lit (.str (aa "")))) (.cons (.ite (.cmp .Eq (.var 1) (.lit (.int 0))) (.cons (.assign 2 (.lit (.str (aa "add")))) .nil) (.cons (.ite (.cmp .Eq (.var 1) (.lit (.int 64))) (.cons (.assign 2 (.lit (.str (aa "or")))) .nil) (.cons (.ite (.cmp .Eq (.var 1) (.lit (.int 80))) (.cons (.assign 2 (.lit (.str (aa "and")))) .nil) (.cons (.ite (.cmp .Eq (.var 1) (.lit (.int 160))) (.cons (.assign 2 (.lit (.str (aa "xor")))) .nil) .nil) .nil)) .nil)) .nil)) (.cons (.ite (.cmp .Eq (.var 2) (.lit (.str (aa "")))) (.cons (.ret (.lit (.str (aa "")))) .nil) .nil) (.cons (.ret (.ite (.cmp .NotEq (.bin .BitAnd (.attr (.var 0) 9) (.bc (.int 1))) (.lit (.int 0))) (.bin .Add (.lit (.str (aa "fetch_"))) (.var 2)) (.var 2))) .nil)))))))⟩
noncomputable def zU:bw:=⟨1,[],[aa "registers"],.stmts (.cons (.ret (.comp false 1 [0] (.bj .range false (.cons (.lit (.int 16)) .nil)) [0] (.cons (.cmp .In (.var 0) (.var 1)) .nil) (.emit (.var 0)))) .nil)⟩
noncomputable def BH:bw:=⟨1,[],[aa "order",aa "name",aa "read"],.stmts (.cons (.assign 1 (.call (.bc (.obj 172)) (.cons (.var 0) .nil))) (.cons (.ite (.uJ (.cons (.cmp .Eq (.var 1) (.lit (.str (aa "neg")))) (.cons (.cmp .Eq (.var 1) (.lit (.str (aa "end")))) .nil))) (.cons (.ret (.tup (.cons (.lst false (.cons (.attr (.var 0) 6) .nil)) (.cons (.lst false (.cons (.attr (.var 0) 6) .nil)) .nil)))) .nil) .nil) (.cons (.assign 2 (.ite (.cmp .Eq (.var 1) (.lit (.str (aa "mov")))) (.lst true .nil) (.lst true (.cons (.attr (.var 0) 6) .nil)))) (.cons (.ite (.call (.bc (.obj 179)) (.cons (.var 0) .nil)) (.cons (.append (.v 2) (.attr (.var 0) 7)) .nil) .nil) (.cons (.ret (.tup (.cons (.call (.bc (.obj 268)) (.cons (.var 2) .nil)) (.cons (.lst false (.cons (.attr (.var 0) 6) .nil)) .nil)))) .nil)))))⟩
noncomputable def zQ:bw:=⟨1,[],[aa "order"],.stmts (.cons (.ite (.call (.bc (.obj 207)) (.cons (.var 0) .nil)) (.cons (.ret (.tup (.cons (.lst false (.cons (.lit (.int 1)) (.cons (.lit (.int 2)) (.cons (.lit (.int 3)) (.cons (.lit (.int 4)) (.cons (.lit (.int 5)) .nil)))))) (.cons (.lst false (.cons (.lit (.int 0)) (.cons (.lit (.int 1)) (.cons (.lit (.int 2)) (.cons (.lit (.int 3)) (.cons (.lit (.int 4)) (.cons (.lit (.int 5)) .nil))))))) .nil)))) .nil) .nil) (.cons (.ite (.call (.bc (.obj 221)) (.cons (.var 0) .nil)) (.cons (.ret (.tup (.cons (.lst false (.cons (.lit (.int 0)) .nil)) (.cons (.lst false .nil) .nil)))) .nil) .nil) (.cons (.ite (.call (.bc (.obj 200)) (.cons (.var 0) .nil)) (.cons (.ret (.tup (.cons (.lst false .nil) (.cons (.lst false .nil) .nil)))) .nil) .nil) (.cons (.ite (.call (.bc (.obj 179)) (.cons (.var 0) .nil)) (.cons (.ret (.tup (.cons (.call (.bc (.obj 268)) (.cons (.lst false (.cons (.attr (.var 0) 6) (.cons (.attr (.var 0) 7) .nil))) .nil)) (.cons (.lst false .nil) .nil)))) .nil) .nil) (.cons (.ret (.tup (.cons (.lst false (.cons (.attr (.var 0) 6) .nil)) (.cons (.lst false .nil) .nil)))) .nil)))))⟩
noncomputable def wc:bw:=⟨1,[],[aa "order",aa "name",aa "both"],.stmts (.cons (.jk [1,2] (.cons (.call (.bc (.obj 263)) (.cons (.var 0) .nil)) (.cons (.lst false (.cons (.attr (.var 0) 6) (.cons (.attr (.var 0) 7) .nil))) .nil))) (.cons (.ite (.cmp .Eq (.var 1) (.lit (.str (aa "cmpxchg")))) (.cons (.ret (.tup (.cons (.call (.bc (.obj 268)) (.cons (.bin .Add (.var 2) (.lst false (.cons (.lit (.int 0)) .nil))) .nil)) (.cons (.lst false (.cons (.lit (.int 0)) .nil)) .nil)))) .nil) .nil) (.cons (.ite (.uJ (.cons (.cmp .Eq (.var 1) (.lit (.str (aa "xchg")))) (.cons (.cmp .Eq (.xy (.var 1) (.lit .none) (.lit (.int 5))) (.lit (.str (aa "fetch")))) .nil))) (.cons (.ret (.tup (.cons (.call (.bc (.obj 268)) (.cons (.var 2) .nil)) (.cons (.lst false (.cons (.attr (.var 0) 7) .nil)) .nil)))) .nil) .nil) (.cons (.ret (.tup (.cons (.call (.bc (.obj 268)) (.cons (.var 2) .nil)) (.cons (.lst false .nil) .nil)))) .nil))))⟩
noncomputable def OM:bw:=⟨1,[],[aa "order",aa "kind"],.stmts (.cons (.ite (.call (.bc (.obj 158)) (.cons (.var 0) .nil)) (.cons (.ret (.call (.bc (.obj 275)) (.cons (.var 0) .nil))) .nil) .nil) (.cons (.ite (.call (.bc (.obj 165)) (.cons (.var 0) .nil)) (.cons (.ret (.call (.bc (.obj 282)) (.cons (.var 0) .nil))) .nil) .nil) (.cons (.assign 1 (.bin .BitAnd (.attr (.var 0) 5) (.lit (.int 7)))) (.cons (.ite (.cmp .Eq (.var 1) (.bc (.int 0))) (.cons (.ret (.tup (.cons (.lst false .nil) (.cons (.lst false (.cons (.attr (.var 0) 6) .nil)) .nil)))) .nil) .nil) (.cons (.ite (.cmp .Eq (.var 1) (.bc (.int 1))) (.cons (.ret (.tup (.cons (.lst false (.cons (.attr (.var 0) 7) .nil)) (.cons (.lst false (.cons (.attr (.var 0) 6) .nil)) .nil)))) .nil) .nil) (.cons (.ite (.cmp .Eq (.var 1) (.bc (.int 2))) (.cons (.ret (.tup (.cons (.lst false (.cons (.attr (.var 0) 6) .nil)) (.cons (.lst false .nil) .nil)))) .nil) .nil) (.cons (.ite (.call (.bc (.obj 249)) (.cons (.var 0) .nil)) (.cons (.ret (.call (.bc (.obj 289)) (.cons (.var 0) .nil))) .nil) .nil) (.cons (.ret (.tup (.cons (.call (.bc (.obj 268)) (.cons (.lst false (.cons (.attr (.var 0) 6) (.cons (.attr (.var 0) 7) .nil))) .nil)) (.cons (.lst false .nil) .nil)))) .nil))))))))⟩
noncomputable def DN:bw:=⟨2,[],[aa "names",aa "name",aa "at"],.stmts (.cons (.for [2] (.bj .range false (.cons (.bc (.int 14)) .nil)) (.cons (.ite (.cmp .Eq (.ef .strip (.xy (.var 0) (.bin .Mult (.lit (.int 4)) (.var 2)) (.bin .Add (.bin .Mult (.lit (.int 4)) (.var 2)) (.lit (.int 4)))) .nil) (.var 1)) (.cons (.ret (.var 2)) .nil) .nil) .nil)) (.cons .fail .nil))⟩
noncomputable def zV:bw:=⟨2,[],[aa "name",aa "size"],.stmts (.cons (.ret (.bin .Add (.bin .LShift (.call (.bc (.obj 303)) (.cons (.bc (.str (aa "add sub mul div or  and lsh rsh neg mod xor mov arshend "))) (.cons (.var 0) .nil))) (.lit (.int 4))) (.ite (.cmp .Eq (.var 1) (.lit (.int 64))) (.bc (.int 7)) (.bc (.int 4))))) .nil)⟩
noncomputable def wb:bw:=⟨2,[],[aa "name",aa "size"],.stmts (.cons (.ite (.uJ (.cons (.cmp .Eq (.var 0) (.lit (.str (aa "ja")))) (.cons (.cmp .Eq (.var 0) (.lit (.str (aa "call")))) (.cons (.cmp .Eq (.var 0) (.lit (.str (aa "exit")))) .nil)))) (.cons .fail .nil) .nil) (.cons (.ret (.bin .Add (.bin .LShift (.call (.bc (.obj 303)) (.cons (.bc (.str (aa "ja  eq  gt  ge  set ne  sgt sge callexitlt  le  slt sle "))) (.cons (.var 0) .nil))) (.lit (.int 4))) (.ite (.cmp .Eq (.var 1) (.lit (.int 64))) (.bc (.int 5)) (.bc (.int 6))))) .nil))⟩
noncomputable def xG:bw:=⟨1,[],[aa "width"],.stmts (.cons (.ite (.cmp .Eq (.var 0) (.lit (.int 4))) (.cons (.ret (.lit (.int 0))) .nil) .nil) (.cons (.ite (.cmp .Eq (.var 0) (.lit (.int 2))) (.cons (.ret (.lit (.int 8))) .nil) .nil) (.cons (.ite (.cmp .Eq (.var 0) (.lit (.int 1))) (.cons (.ret (.lit (.int 16))) .nil) .nil) (.cons (.ite (.cmp .Eq (.var 0) (.lit (.int 8))) (.cons (.ret (.lit (.int 24))) .nil) .nil) (.cons .fail .nil)))))⟩
noncomputable def DX:bw:=⟨4,[(.int 64)],[aa "op",aa "dst",aa "src",aa "size"],.stmts (.cons (.ret (.call (.bc (.obj 140)) (.cons (.bin .Add (.call (.bc (.obj 310)) (.cons (.var 0) (.cons (.var 3) .nil))) (.bc (.int 8))) (.cons (.var 1) (.cons (.var 2) (.cons (.lit (.int 0)) (.cons (.lit (.int 0)) .nil))))))) .nil)⟩
noncomputable def DY:bw:=⟨4,[(.int 64)],[aa "op",aa "dst",aa "imm",aa "size"],.stmts (.cons (.ret (.call (.bc (.obj 140)) (.cons (.call (.bc (.obj 310)) (.cons (.var 0) (.cons (.var 3) .nil))) (.cons (.var 1) (.cons (.lit (.int 0)) (.cons (.lit (.int 0)) (.cons (.var 2) .nil))))))) .nil)⟩
noncomputable def OO:bw:=⟨1,[],[aa "away"],.stmts (.cons (.ret (.call (.bc (.obj 140)) (.cons (.bc (.int 5)) (.cons (.lit (.int 0)) (.cons (.lit (.int 0)) (.cons (.var 0) (.cons (.lit (.int 0)) .nil))))))) .nil)⟩
noncomputable def BD:bw:=⟨1,[],[aa "away"],.stmts (.cons (.ret (.call (.bc (.obj 140)) (.cons (.bc (.int 6)) (.cons (.lit (.int 0)) (.cons (.lit (.int 0)) (.cons (.lit (.int 0)) (.cons (.var 0) .nil))))))) .nil)⟩
noncomputable def xP:bw:=⟨5,[(.int 64)],[aa "op",aa "dst",aa "src",aa "away",aa "size"],.stmts (.cons (.ret (.call (.bc (.obj 140)) (.cons (.bin .Add (.call (.bc (.obj 317)) (.cons (.var 0) (.cons (.var 4) .nil))) (.bc (.int 8))) (.cons (.var 1) (.cons (.var 2) (.cons (.var 3) (.cons (.lit (.int 0)) .nil))))))) .nil)⟩
noncomputable def xQ:bw:=⟨5,[(.int 64)],[aa "op",aa "dst",aa "imm",aa "away",aa "size"],.stmts (.cons (.ret (.call (.bc (.obj 140)) (.cons (.call (.bc (.obj 317)) (.cons (.var 0) (.cons (.var 4) .nil))) (.cons (.var 1) (.cons (.lit (.int 0)) (.cons (.var 3) (.cons (.var 2) .nil))))))) .nil)⟩
noncomputable def ON:bw:=⟨4,[],[aa "width",aa "dst",aa "src",aa "off"],.stmts (.cons (.ret (.call (.bc (.obj 140)) (.cons (.bin .Add (.bin .Add (.bc (.int 96)) (.call (.bc (.obj 324)) (.cons (.var 0) .nil))) (.bc (.int 1))) (.cons (.var 1) (.cons (.var 2) (.cons (.var 3) (.cons (.lit (.int 0)) .nil))))))) .nil)⟩
noncomputable def DP:bw:=⟨4,[],[aa "width",aa "dst",aa "src",aa "off"],.stmts (.cons (.ret (.call (.bc (.obj 140)) (.cons (.bin .Add (.bin .Add (.bc (.int 128)) (.call (.bc (.obj 324)) (.cons (.var 0) .nil))) (.bc (.int 1))) (.cons (.var 1) (.cons (.var 2) (.cons (.var 3) (.cons (.lit (.int 0)) .nil))))))) .nil)⟩
noncomputable def KS:bw:=⟨4,[],[aa "width",aa "dst",aa "off",aa "src"],.stmts (.cons (.ret (.call (.bc (.obj 140)) (.cons (.bin .Add (.bin .Add (.bc (.int 96)) (.call (.bc (.obj 324)) (.cons (.var 0) .nil))) (.bc (.int 3))) (.cons (.var 1) (.cons (.var 3) (.cons (.var 2) (.cons (.lit (.int 0)) .nil))))))) .nil)⟩
noncomputable def zM:bw:=⟨4,[],[aa "width",aa "dst",aa "off",aa "imm"],.stmts (.cons (.ret (.call (.bc (.obj 140)) (.cons (.bin .Add (.bin .Add (.bc (.int 96)) (.call (.bc (.obj 324)) (.cons (.var 0) .nil))) (.bc (.int 2))) (.cons (.var 1) (.cons (.lit (.int 0)) (.cons (.var 2) (.cons (.var 3) .nil))))))) .nil)⟩
noncomputable def wg:bw:=⟨1,[],[aa "name",aa "plain"],.stmts (.cons (.ite (.cmp .Eq (.var 0) (.lit (.str (aa "xchg")))) (.cons (.ret (.bc (.int 225))) .nil) .nil) (.cons (.ite (.cmp .Eq (.var 0) (.lit (.str (aa "cmpxchg")))) (.cons (.ret (.bc (.int 241))) .nil) .nil) (.cons (.assign 1 (.ite (.cmp .Eq (.xy (.var 0) (.lit .none) (.lit (.int 6))) (.lit (.str (aa "fetch_")))) (.xy (.var 0) (.lit (.int 6)) (.lit .none)) (.var 0))) (.cons (.ite (.ic (.cons (.cmp .NotEq (.var 1) (.lit (.str (aa "add")))) (.cons (.cmp .NotEq (.var 1) (.lit (.str (aa "or")))) (.cons (.cmp .NotEq (.var 1) (.lit (.str (aa "and")))) (.cons (.cmp .NotEq (.var 1) (.lit (.str (aa "xor")))) .nil))))) (.cons .fail .nil) .nil) (.cons (.ret (.bin .Add (.bin .LShift (.call (.bc (.obj 303)) (.cons (.bc (.str (aa "add sub mul div or  and lsh rsh neg mod xor mov arshend "))) (.cons (.var 1) .nil))) (.lit (.int 4))) (.ite (.cmp .Eq (.xy (.var 0) (.lit .none) (.lit (.int 6))) (.lit (.str (aa "fetch_")))) (.bc (.int 1)) (.lit (.int 0))))) .nil)))))⟩
noncomputable def HL:bw:=⟨5,[],[aa "name",aa "width",aa "dst",aa "off",aa "src"],.stmts (.cons (.ret (.call (.bc (.obj 140)) (.cons (.bin .Add (.bin .Add (.bc (.int 192)) (.call (.bc (.obj 324)) (.cons (.var 1) .nil))) (.bc (.int 3))) (.cons (.var 2) (.cons (.var 4) (.cons (.var 3) (.cons (.call (.bc (.obj 405)) (.cons (.var 0) .nil)) .nil))))))) .nil)⟩
noncomputable def OP:bw:=⟨1,[],[aa "number"],.stmts (.cons (.ret (.call (.bc (.obj 140)) (.cons (.bc (.int 133)) (.cons (.lit (.int 0)) (.cons (.lit (.int 0)) (.cons (.lit (.int 0)) (.cons (.var 0) .nil))))))) .nil)⟩
noncomputable def xK:bw:=⟨1,[],[aa "away"],.stmts (.cons (.ret (.call (.bc (.obj 140)) (.cons (.bc (.int 133)) (.cons (.lit (.int 0)) (.cons (.lit (.int 1)) (.cons (.lit (.int 0)) (.cons (.var 0) .nil))))))) .nil)⟩
noncomputable def KU:bw:=⟨0,[],[],.stmts (.cons (.ret (.call (.bc (.obj 140)) (.cons (.bc (.int 149)) (.cons (.lit (.int 0)) (.cons (.lit (.int 0)) (.cons (.lit (.int 0)) (.cons (.lit (.int 0)) .nil))))))) .nil)⟩
noncomputable def dP:bw:=⟨2,[],[aa "self",aa "orders",aa "slot",aa "index",aa "begins"],.stmts (.cons (.setAttr 0 0 (.bj .list false (.cons (.var 1) .nil))) (.cons (.setAttr 0 1 (.lst true .nil)) (.cons (.setAttr 0 2 .B2) (.cons (.assign 2 (.lit (.int 0))) (.cons (.for [3] (.bj .range false (.cons (.bj .len false (.cons (.attr (.var 0) 0) .nil)) .nil)) (.cons (.append (.fld 0 1) (.var 2)) (.cons (.fW (.fld 0 2) (.var 2) (.var 3)) (.cons (.assign 2 (.bin .Add (.var 2) (.ite (.call (.bc (.obj 193)) (.cons (.idx (.attr (.var 0) 0) (.var 3)) .nil)) (.lit (.int 2)) (.lit (.int 1))))) .nil)))) (.cons (.setAttr 0 3 (.var 2)) (.cons (.assign 4 (.GV (.cons (.lit (.int 0)) .nil))) (.cons (.for [3] (.bj .range false (.cons (.bj .len false (.cons (.attr (.var 0) 0) .nil)) .nil)) (.cons (.ite (.ic (.cons (.call (.bc (.obj 214)) (.cons (.idx (.attr (.var 0) 0) (.var 3)) .nil)) (.cons (.cmp .In (.ef (.user 21) (.var 0) (.cons (.var 3) .nil)) (.attr (.var 0) 2)) .nil))) (.cons (.add (.v 4) (.idx (.attr (.var 0) 2) (.ef (.user 21) (.var 0) (.cons (.var 3) .nil)))) .nil) .nil) .nil)) (.cons (.setAttr 0 4 (.bj .sorted false (.cons (.var 4) .nil))) .nil)))))))))⟩
noncomputable def sM:bw:=⟨1,[],[aa "self"],.stmts (.cons (.ret (.bj .len false (.cons (.attr (.var 0) 0) .nil))) .nil)⟩
noncomputable def o4:bw:=⟨2,[],[aa "self",aa "at"],.stmts (.cons (.ret (.bin .Add (.bin .Add (.idx (.attr (.var 0) 1) (.var 1)) (.lit (.int 1))) (.call (.bc (.obj 256)) (.cons (.idx (.attr (.var 0) 0) (.var 1)) .nil)))) .nil)⟩
noncomputable def rN:bw:=⟨2,[],[aa "self",aa "at"],.stmts (.cons (.ret (.idx (.attr (.var 0) 2) (.ef (.user 21) (.var 0) (.cons (.var 1) .nil)))) .nil)⟩
noncomputable def gN:bw:=⟨2,[],[aa "self",aa "at",aa "low",aa "high",aa "middle"],.stmts (.cons (.jk [2,3] (.cons (.lit (.int 0)) (.cons (.bj .len false (.cons (.attr (.var 0) 4) .nil)) .nil))) (.cons (.while (.cmp .Gt (.bin .Sub (.var 3) (.var 2)) (.lit (.int 1))) (.cons (.assign 4 (.bin .FloorDiv (.bin .Add (.var 2) (.var 3)) (.lit (.int 2)))) (.cons (.ite (.cmp .LtE (.idx (.attr (.var 0) 4) (.var 4)) (.var 1)) (.cons (.assign 2 (.var 4)) .nil) (.cons (.assign 3 (.var 4)) .nil)) .nil))) (.cons (.ret (.idx (.attr (.var 0) 4) (.var 2))) .nil)))⟩
noncomputable def gk:bw:=⟨2,[],[aa "self",aa "sub",aa "begin"],.stmts (.cons (.for [2] (.attr (.var 0) 4) (.cons (.ite (.cmp .Gt (.var 2) (.var 1)) (.cons (.ret (.var 2)) .nil) .nil) .nil)) (.cons (.ret (.bj .len false (.cons (.attr (.var 0) 0) .nil))) .nil))⟩
noncomputable def BC:bw:=⟨1,[],[aa "order"],.stmts (.cons (.ret (.uJ (.cons (.call (.bc (.obj 200)) (.cons (.var 0) .nil)) (.cons (.call (.bc (.obj 228)) (.cons (.var 0) .nil)) (.cons (.call (.bc (.obj 214)) (.cons (.var 0) .nil)) .nil))))) .nil)⟩
noncomputable def xH:bw:=⟨2,[],[aa "program",aa "at",aa "order"],.stmts (.cons (.assign 2 (.idx (.attr (.var 0) 0) (.var 1))) (.cons (.ite (.call (.bc (.obj 221)) (.cons (.var 2) .nil)) (.cons (.ret (.lst false .nil)) .nil) .nil) (.cons (.ite (.call (.bc (.obj 200)) (.cons (.var 2) .nil)) (.cons (.ret (.lst false (.cons (.ef (.user 22) (.var 0) (.cons (.var 1) .nil)) .nil))) .nil) .nil) (.cons (.ite (.ic (.cons (.call (.bc (.obj 228)) (.cons (.var 2) .nil)) (.cons (.cmp .NotEq (.ef (.user 22) (.var 0) (.cons (.var 1) .nil)) (.bin .Add (.var 1) (.lit (.int 1)))) .nil))) (.cons (.ret (.lst false (.cons (.bin .Add (.var 1) (.lit (.int 1))) (.cons (.ef (.user 22) (.var 0) (.cons (.var 1) .nil)) .nil)))) .nil) .nil) (.cons (.ret (.lst false (.cons (.bin .Add (.var 1) (.lit (.int 1))) .nil))) .nil)))))⟩
noncomputable def vZ:bw:=⟨1,[],[aa "program"],.stmts (.cons (.ret (.comp false 1 [0] (.bj .range false (.cons (.ef (.user 20) (.var 0) .nil) .nil)) [0] (.cons (.call (.bc (.obj 214)) (.cons (.idx (.attr (.var 1) 0) (.var 0)) .nil)) .nil) (.emit (.var 0)))) .nil)⟩
noncomputable def jl:bw:=⟨1,[],[aa "program",aa "is_seen",aa "waiting",aa "at",aa "nexts",aa "later"],.stmts (.cons (.assign 1 (.comp true 1 [] (.attr (.var 0) 0) [0] .nil (.emit (.lit (.bool false))))) (.cons (.fW (.v 1) (.lit (.int 0)) (.lit (.bool true))) (.cons (.assign 2 (.lst true (.cons (.lit (.int 0)) .nil))) (.cons (.while (.var 2) (.cons (.pop [3] true 2) (.cons (.assign 4 (.bj .list true (.cons (.call (.bc (.obj 508)) (.cons (.var 0) (.cons (.var 3) .nil))) .nil))) (.cons (.ite (.call (.bc (.obj 214)) (.cons (.idx (.attr (.var 0) 0) (.var 3)) .nil)) (.cons (.append (.v 4) (.ef (.user 22) (.var 0) (.cons (.var 3) .nil))) .nil) .nil) (.cons (.fz 4) (.cons (.for [5] (.var 4) (.cons (.ite (.un .Not (.idx (.var 1) (.var 5))) (.cons (.fW (.v 1) (.var 5) (.lit (.bool true))) (.cons (.append (.v 2) (.var 5)) .nil)) .nil) .nil)) .nil)))))) (.cons (.ret (.comp false 1 [1] (.bj .range false (.cons (.ef (.user 20) (.var 0) .nil) .nil)) [0] (.cons (.idx (.var 1) (.var 0)) .nil) (.emit (.var 0)))) .nil)))))⟩
noncomputable def oZ:bw:=⟨2,[],[aa "program",aa "sub",aa "found",aa "at"],.stmts (.cons (.assign 2 (.bj .set true .nil)) (.cons (.for [3] (.bj .range false (.cons (.var 1) (.cons (.ef (.user 24) (.var 0) (.cons (.var 1) .nil)) .nil))) (.cons (.ite (.call (.bc (.obj 214)) (.cons (.idx (.attr (.var 0) 0) (.var 3)) .nil)) (.cons (.add (.v 2) (.ef (.user 22) (.var 0) (.cons (.var 3) .nil))) .nil) .nil) .nil)) (.cons (.ret (.bj .sorted false (.cons (.var 2) .nil))) .nil)))⟩
noncomputable def kQ:bw:=⟨1,[],[aa "program",aa "direct",aa "found",aa "sub",aa "seen",aa "waiting",aa "other"],.stmts (.cons (.assign 1 (.rR false 1 [0] (.attr (.var 0) 4) 0 (.call (.bc (.obj 525)) (.cons (.var 1) (.cons (.var 0) .nil))))) (.cons (.assign 2 .B2) (.cons (.for [3] (.attr (.var 0) 4) (.cons (.jk [4,5] (.cons (.bj .set true .nil) (.cons (.bj .list true (.cons (.idx (.var 1) (.var 3)) .nil)) .nil))) (.cons (.while (.var 5) (.cons (.pop [6] true 5) (.cons (.ite (.cmp .NotIn (.var 6) (.var 4)) (.cons (.add (.v 4) (.var 6)) (.cons (.extend (.v 5) (.idx (.var 1) (.var 6))) .nil)) .nil) .nil))) (.cons (.fz 4) (.cons (.fW (.v 2) (.var 3) (.var 4)) .nil))))) (.cons (.fz 2) (.cons (.ret (.var 2)) .nil)))))⟩
noncomputable def fp:bw:=⟨1,[],[aa "program",aa "counts",aa "is_changed",aa "at",aa "many",aa "other"],.stmts (.cons (.assign 1 (.rR true 1 [] (.attr (.var 0) 4) 0 (.lit (.int 1)))) (.cons (.assign 2 (.lit (.bool true))) (.cons (.while (.var 2) (.cons (.assign 2 (.lit (.bool false))) (.cons (.for [3] (.call (.bc (.obj 513)) (.cons (.var 0) .nil)) (.cons (.jk [4,5] (.cons (.bin .Add (.idx (.var 1) (.ef (.user 23) (.var 0) (.cons (.var 3) .nil))) (.lit (.int 1))) (.cons (.ef (.user 22) (.var 0) (.cons (.var 3) .nil)) .nil))) (.cons (.ite (.cmp .Lt (.idx (.var 1) (.var 5)) (.var 4)) (.cons (.fW (.v 1) (.var 5) (.var 4)) (.cons (.assign 2 (.lit (.bool true))) .nil)) .nil) .nil))) .nil))) (.cons (.fz 1) (.cons (.ret (.var 1)) .nil)))))⟩
noncomputable def gW:bw:=⟨1,[],[aa "program",aa "at",aa "order",aa "slot"],.stmts (.cons (.for [1] (.bj .range false (.cons (.ef (.user 20) (.var 0) .nil) .nil)) (.cons (.assign 2 (.idx (.attr (.var 0) 0) (.var 1))) (.cons (.ite (.call (.bc (.obj 501)) (.cons (.var 2) .nil)) (.cons (.assign 3 (.ef (.user 21) (.var 0) (.cons (.var 1) .nil))) (.cons (.ite (.un .Not (.chain .LtE .Lt (.lit (.int 0)) (.var 3) (.attr (.var 0) 3))) (.cons .fail .nil) .nil) (.cons (.ite (.cmp .NotIn (.var 3) (.attr (.var 0) 2)) (.cons .fail .nil) .nil) .nil))) .nil) .nil))) (.cons (.for [1] (.bj .range false (.cons (.ef (.user 20) (.var 0) .nil) .nil)) (.cons (.assign 2 (.idx (.attr (.var 0) 0) (.var 1))) (.cons (.ite (.ic (.cons (.uJ (.cons (.call (.bc (.obj 200)) (.cons (.var 2) .nil)) (.cons (.call (.bc (.obj 228)) (.cons (.var 2) .nil)) .nil))) (.cons (.cmp .NotEq (.ef (.user 23) (.var 0) (.cons (.ef (.user 22) (.var 0) (.cons (.var 1) .nil)) .nil)) (.ef (.user 23) (.var 0) (.cons (.var 1) .nil))) .nil))) (.cons .fail .nil) .nil) .nil))) .nil))⟩
noncomputable def qq:bw:=⟨1,[],[aa "program",aa "sub",aa "last"],.stmts (.cons (.for [1] (.attr (.var 0) 4) (.cons (.assign 2 (.bin .Sub (.ef (.user 24) (.var 0) (.cons (.var 1) .nil)) (.lit (.int 1)))) (.cons (.ite (.ic (.cons (.un .Not (.call (.bc (.obj 221)) (.cons (.idx (.attr (.var 0) 0) (.var 2)) .nil))) (.cons (.un .Not (.call (.bc (.obj 200)) (.cons (.idx (.attr (.var 0) 0) (.var 2)) .nil))) .nil))) (.cons .fail .nil) .nil) .nil))) .nil)⟩
noncomputable def mM:bw:=⟨1,[],[aa "program",aa "reached",aa "at"],.stmts (.cons (.assign 1 (.call (.bc (.obj 518)) (.cons (.var 0) .nil))) (.cons (.for [2] (.bj .range false (.cons (.bj .len false (.cons (.var 1) .nil)) .nil)) (.cons (.ite (.cmp .NotEq (.idx (.var 1) (.var 2)) (.var 2)) (.cons .fail .nil) .nil) .nil)) (.cons (.ite (.cmp .Lt (.bj .len false (.cons (.var 1) .nil)) (.ef (.user 20) (.var 0) .nil)) (.cons .fail .nil) .nil) .nil)))⟩
noncomputable def jo:bw:=⟨1,[],[aa "program",aa "calls",aa "leads",aa "at",aa "sub",aa "other",aa "counts"],.stmts (.cons (.assign 1 (.call (.bc (.obj 513)) (.cons (.var 0) .nil))) (.cons (.ite (.un .Not (.var 1)) (.cons (.ret (.lit .none)) .nil) .nil) (.cons (.assign 2 (.call (.bc (.obj 530)) (.cons (.var 0) .nil))) (.cons (.for [3] (.var 1) (.cons (.jk [4,5] (.cons (.ef (.user 23) (.var 0) (.cons (.var 3) .nil)) (.cons (.ef (.user 22) (.var 0) (.cons (.var 3) .nil)) .nil))) (.cons (.ite (.uJ (.cons (.cmp .Eq (.var 5) (.var 4)) (.cons (.cmp .In (.var 4) (.idx (.var 2) (.var 5))) .nil))) (.cons .fail .nil) .nil) .nil))) (.cons (.assign 6 (.call (.bc (.obj 535)) (.cons (.var 0) .nil))) (.cons (.for [3] (.var 1) (.cons (.ite (.cmp .GtE (.idx (.var 6) (.ef (.user 23) (.var 0) (.cons (.var 3) .nil))) (.bc (.int 8))) (.cons .fail .nil) .nil) .nil)) .nil))))))⟩
noncomputable def sL:bw:=⟨2,[(.int 4096)],[aa "orders",aa "most",aa "program"],.stmts (.cons (.assign 2 (.call (.bc (.obj 490)) (.cons (.var 0) .nil))) (.cons (.ite (.cmp .Eq (.ef (.user 20) (.var 2) .nil) (.lit (.int 0))) (.cons .fail .nil) .nil) (.cons (.ite (.cmp .Gt (.attr (.var 2) 3) (.var 1)) (.cons .fail .nil) .nil) (.cons (.run (.call (.bc (.obj 542)) (.cons (.var 2) .nil))) (.cons (.run (.call (.bc (.obj 549)) (.cons (.var 2) .nil))) (.cons (.run (.call (.bc (.obj 556)) (.cons (.var 2) .nil))) (.cons (.run (.call (.bc (.obj 563)) (.cons (.var 2) .nil))) (.cons (.ret (.var 2)) .nil))))))))⟩
noncomputable def DO:bw:=⟨1,[],[aa "numbers",aa "mask",aa "number"],.stmts (.cons (.assign 1 (.lit (.int 0))) (.cons (.for [2] (.var 0) (.cons (.assign 1 (.bin .BitOr (.var 1) (.bin .LShift (.lit (.int 1)) (.var 2)))) .nil)) (.cons (.ret (.var 1)) .nil)))⟩
noncomputable def xJ:bw:=⟨1,[],[aa "mask"],.stmts (.cons (.ret (.comp false 1 [0] (.bj .range false (.cons (.call (.bc (.obj 73)) (.cons (.var 0) .nil)) .nil)) [0] (.cons (.cmp .Eq (.bin .BitAnd (.bin .RShift (.var 1) (.var 0)) (.lit (.int 1))) (.lit (.int 1))) .nil) (.emit (.var 0)))) .nil)⟩
noncomputable def xO:bw:=⟨1,[],[aa "order",aa "helper",aa "count"],.stmts (.cons (.ite (.call (.bc (.obj 214)) (.cons (.var 0) .nil)) (.cons (.ret (.lit (.int 62))) .nil) .nil) (.cons (.assign 1 (.call (.bc (.obj 115)) (.cons (.attr (.var 0) 9) .nil))) (.cons (.assign 2 (.ite (.cmp .Is (.var 1) (.lit .none)) (.lit (.int 5)) (.bj .len false (.cons (.attr (.var 1) 13) .nil)))) (.cons (.ret (.call (.bc (.obj 578)) (.cons (.bj .range false (.cons (.lit (.int 1)) (.cons (.bin .Add (.var 2) (.lit (.int 1))) .nil))) .nil))) .nil))))⟩
noncomputable def rI:bw:=⟨1,[],[aa "order",aa "read",aa "written"],.stmts (.cons (.ite (.uJ (.cons (.call (.bc (.obj 207)) (.cons (.var 0) .nil)) (.cons (.call (.bc (.obj 214)) (.cons (.var 0) .nil)) .nil))) (.cons (.ret (.tup (.cons (.call (.bc (.obj 590)) (.cons (.var 0) .nil)) (.cons (.bc (.int 63)) .nil)))) .nil) .nil) (.cons (.ite (.call (.bc (.obj 221)) (.cons (.var 0) .nil)) (.cons (.ret (.tup (.cons (.lit (.int 1)) (.cons (.lit (.int 0)) .nil)))) .nil) .nil) (.cons (.unpack [1,2] (.call (.bc (.obj 296)) (.cons (.var 0) .nil))) (.cons (.ret (.tup (.cons (.call (.bc (.obj 578)) (.cons (.var 1) .nil)) (.cons (.call (.bc (.obj 578)) (.cons (.var 2) .nil)) .nil)))) .nil))))⟩
noncomputable def jS:bw:=⟨4,[],[aa "program",aa "masks",aa "behind",aa "ahead",aa "is_changed",aa "at",aa "found",aa "other"],.stmts (.cons (.assign 4 (.lit (.bool true))) (.cons (.while (.var 4) (.cons (.assign 4 (.lit (.bool false))) (.cons (.for [5] (.bj .range false (.cons (.bin .Sub (.ef (.user 20) (.var 0) .nil) (.lit (.int 1))) (.cons (.un .USub (.lit (.int 1))) (.cons (.un .USub (.lit (.int 1))) .nil)))) (.cons (.assign 6 (.var 2)) (.cons (.for [7] (.call (.bc (.obj 508)) (.cons (.var 0) (.cons (.var 5) .nil))) (.cons (.assign 6 (.bin .BitOr (.var 6) (.idx (.var 1) (.var 7)))) .nil)) (.cons (.assign 6 (.call (.var 3) (.cons (.var 5) (.cons (.var 6) .nil)))) (.cons (.ite (.cmp .NotEq (.var 6) (.idx (.var 1) (.var 5))) (.cons (.fW (.v 1) (.var 5) (.var 6)) (.cons (.assign 4 (.lit (.bool true))) .nil)) .nil) .nil))))) .nil))) (.cons (.fz 1) (.cons (.ret (.var 1)) .nil))))⟩
noncomputable def rJ:bw:=⟨1,[],[aa "program",aa "pairs",aa "registers_ahead"],.stmts (.cons (.assign 1 (.comp false 1 [] (.attr (.var 0) 0) [0] .nil (.emit (.call (.bc (.obj 597)) (.cons (.var 0) .nil))))) (.cons (.lock [1]) (.cons (.defn 2 0 [1]) (.cons (.ret (.call (.bc (.obj 604)) (.cons (.var 0) (.cons (.comp true 1 [] (.attr (.var 0) 0) [0] .nil (.emit (.lit (.int 0)))) (.cons (.lit (.int 0)) (.cons (.var 2) .nil)))))) .nil))))⟩
noncomputable def sH:bw:=⟨2,[],[aa "off",aa "width",aa "first",aa "last"],.stmts (.cons (.ite (.uJ (.cons (.cmp .Lt (.var 0) (.un .USub (.lit (.int 512)))) (.cons (.cmp .Gt (.bin .Add (.var 0) (.var 1)) (.lit (.int 0))) .nil))) (.cons (.ret (.lit (.int 0))) .nil) .nil) (.cons (.jk [2,3] (.cons (.bin .FloorDiv (.bin .Sub (.un .USub (.var 0)) (.lit (.int 1))) (.lit (.int 8))) (.cons (.bin .FloorDiv (.bin .Sub (.un .USub (.var 0)) (.var 1)) (.lit (.int 8))) .nil))) (.cons (.ret (.call (.bc (.obj 578)) (.cons (.bj .range false (.cons (.var 3) (.cons (.bin .Add (.var 2) (.lit (.int 1))) .nil))) .nil))) .nil)))⟩
noncomputable def sI:bw:=⟨2,[],[aa "off",aa "width"],.stmts (.cons (.ret (.ic (.cons (.cmp .Eq (.var 1) (.lit (.int 8))) (.cons (.cmp .Eq (.bin .Mod (.var 0) (.lit (.int 8))) (.lit (.int 0))) .nil)))) .nil)⟩
noncomputable def xI:bw:=⟨1,[],[aa "order"],.stmts (.cons (.ite (.ic (.cons (.call (.bc (.obj 235)) (.cons (.var 0) .nil)) (.cons (.cmp .Eq (.attr (.var 0) 7) (.bc (.int 10))) .nil))) (.cons (.ret (.tup (.cons (.call (.bc (.obj 616)) (.cons (.attr (.var 0) 8) (.cons (.call (.bc (.obj 186)) (.cons (.var 0) .nil)) .nil))) (.cons (.lit (.int 0)) .nil)))) .nil) .nil) (.cons (.ite (.ic (.cons (.cmp .Eq (.attr (.var 0) 6) (.bc (.int 10))) (.cons (.call (.bc (.obj 249)) (.cons (.var 0) .nil)) .nil))) (.cons (.ret (.tup (.cons (.call (.bc (.obj 616)) (.cons (.attr (.var 0) 8) (.cons (.call (.bc (.obj 186)) (.cons (.var 0) .nil)) .nil))) (.cons (.lit (.int 0)) .nil)))) .nil) .nil) (.cons (.ite (.ic (.cons (.cmp .Eq (.attr (.var 0) 6) (.bc (.int 10))) (.cons (.call (.bc (.obj 242)) (.cons (.var 0) .nil)) (.cons (.call (.bc (.obj 623)) (.cons (.attr (.var 0) 8) (.cons (.call (.bc (.obj 186)) (.cons (.var 0) .nil)) .nil))) .nil)))) (.cons (.ret (.tup (.cons (.lit (.int 0)) (.cons (.call (.bc (.obj 616)) (.cons (.attr (.var 0) 8) (.cons (.lit (.int 8)) .nil))) .nil)))) .nil) .nil) (.cons (.ret (.tup (.cons (.lit (.int 0)) (.cons (.lit (.int 0)) .nil)))) .nil))))⟩
noncomputable def v9:bw:=⟨1,[],[aa "order"],.stmts (.cons (.ite (.uJ (.cons (.call (.bc (.obj 207)) (.cons (.var 0) .nil)) (.cons (.call (.bc (.obj 214)) (.cons (.var 0) .nil)) (.cons (.call (.bc (.obj 221)) (.cons (.var 0) .nil)) .nil)))) (.cons (.ret (.lit (.bool false))) .nil) .nil) (.cons (.ite (.call (.bc (.obj 235)) (.cons (.var 0) .nil)) (.cons (.ret (.lit (.bool false))) .nil) .nil) (.cons (.ite (.uJ (.cons (.call (.bc (.obj 242)) (.cons (.var 0) .nil)) (.cons (.call (.bc (.obj 249)) (.cons (.var 0) .nil)) .nil))) (.cons (.ret (.ic (.cons (.cmp .Eq (.call (.bc (.obj 151)) (.cons (.var 0) .nil)) (.lit (.str (aa "stx")))) (.cons (.cmp .Eq (.attr (.var 0) 7) (.bc (.int 10))) .nil)))) .nil) .nil) (.cons (.ret (.cmp .In (.bc (.int 10)) (.idx (.call (.bc (.obj 296)) (.cons (.var 0) .nil)) (.lit (.int 0))))) .nil))))⟩
noncomputable def iJ:bw:=⟨1,[],[aa "program",aa "found",aa "at",aa "order",aa "sub"],.stmts (.cons (.assign 1 (.lst true .nil)) (.cons (.kS 2 3 (.attr (.var 0) 0) (.cons (.assign 4 (.ef (.user 23) (.var 0) (.cons (.var 2) .nil))) (.cons (.ite (.ic (.cons (.call (.bc (.obj 637)) (.cons (.var 3) .nil)) (.cons (.cmp .NotIn (.var 4) (.var 1)) .nil))) (.cons (.append (.v 1) (.var 4)) .nil) .nil) .nil))) (.cons (.fz 1) (.cons (.ret (.var 1)) .nil))))⟩
noncomputable def xM:bw:=⟨1,[],[aa "program",aa "pairs",aa "leaking",aa "open_ones",aa "slots_ahead"],.stmts (.cons (.assign 1 (.comp false 1 [] (.attr (.var 0) 0) [0] .nil (.emit (.call (.bc (.obj 630)) (.cons (.var 0) .nil))))) (.cons (.assign 2 (.call (.bc (.obj 644)) (.cons (.var 0) .nil))) (.cons (.assign 3 (.comp false 1 [2,0] (.bj .range false (.cons (.ef (.user 20) (.var 0) .nil) .nil)) [0] .nil (.emit (.cmp .In (.ef (.user 23) (.var 2) (.cons (.var 0) .nil)) (.var 1))))) (.cons (.lock [3,1]) (.cons (.defn 4 1 [3,1]) (.cons (.ret (.call (.bc (.obj 604)) (.cons (.var 0) (.cons (.comp true 1 [] (.attr (.var 0) 0) [0] .nil (.emit (.lit (.int 0)))) (.cons (.lit (.int 0)) (.cons (.var 4) .nil)))))) .nil))))))⟩
noncomputable def lB:bw:=⟨1,[],[aa "program",aa "masks",aa "found",aa "at",aa "order",aa "behind",aa "other"],.stmts (.cons (.jk [1,2] (.cons (.call (.bc (.obj 609)) (.cons (.var 0) .nil)) (.cons (.lst true .nil) .nil))) (.cons (.kS 3 4 (.attr (.var 0) 0) (.cons (.ite (.cmp .NotIn (.call (.bc (.obj 151)) (.cons (.var 4) .nil)) (.tup (.cons (.lit (.str (aa "alu"))) (.cons (.lit (.str (aa "alu64"))) .nil)))) (.cons .cont .nil) .nil) (.cons (.assign 5 (.lit (.int 0))) (.cons (.for [6] (.call (.bc (.obj 508)) (.cons (.var 0) (.cons (.var 3) .nil))) (.cons (.assign 5 (.bin .BitOr (.var 5) (.idx (.var 1) (.var 6)))) .nil)) (.cons (.ite (.cmp .Eq (.bin .BitAnd (.idx (.call (.bc (.obj 597)) (.cons (.var 4) .nil)) (.lit (.int 1))) (.var 5)) (.lit (.int 0))) (.cons (.append (.v 2) (.var 3)) .nil) .nil) .nil))))) (.cons (.fz 2) (.cons (.ret (.var 2)) .nil))))⟩
noncomputable def tO:bw:=⟨1,[],[aa "script",aa "whole",aa "cell"],.stmts (.cons (.assign 1 (.lit (.int 10007))) (.cons (.for [2] (.xy (.var 0) (.lit .none) (.lit (.int 63))) (.cons (.assign 1 (.bin .Add (.bin .Mult (.var 1) (.lit (.int 1000003))) (.bin .Mod (.bin .Add (.bin .Mult (.lit (.int 2)) (.bj .abs false (.cons (.bj .int false (.cons (.var 2) .nil)) .nil))) (.bj .int false (.cons (.cmp .Lt (.var 2) (.lit (.int 0))) .nil))) (.bin .Pow (.lit (.int 10)) (.lit (.int 90)))))) .nil)) (.cons (.ret (.vK (.ite (.cmp .GtE (.var 1) (.bin .Pow (.lit (.int 10)) (.lit (.int 40)))) (.var 1) (.bin .Pow (.var 1) (.lit (.int 11)))) (.lit (.int 0)))) .nil)))⟩
noncomputable def BA:bw:=⟨2,[],[aa "well",aa "many",aa "figure"],.stmts (.cons (.ite (.cmp .Eq (.idx (.var 0) (.lit (.int 0))) (.lit (.int 0))) (.cons (.fW (.v 0) (.lit (.int 1)) (.bin .Add (.idx (.var 0) (.lit (.int 1))) (.lit (.int 1)))) (.cons (.fW (.v 0) (.lit (.int 0)) (.bin .Pow (.lit (.int 1000003)) (.bin .Add (.lit (.int 7)) (.idx (.var 0) (.lit (.int 1)))))) .nil)) .nil) (.cons (.assign 2 (.bin .Mod (.idx (.var 0) (.lit (.int 0))) (.var 1))) (.cons (.fW (.v 0) (.lit (.int 0)) (.bin .FloorDiv (.idx (.var 0) (.lit (.int 0))) (.var 1))) (.cons (.ret (.var 2)) .nil))))⟩
noncomputable def HJ:bw:=⟨2,[],[aa "well",aa "some"],.stmts (.cons (.ret (.idx (.var 1) (.call (.bc (.obj 678)) (.cons (.var 0) (.cons (.bj .len false (.cons (.var 1) .nil)) .nil))))) .nil)⟩
noncomputable def DR:bw:=⟨3,[],[aa "well",aa "home",aa "width",aa "spot"],.stmts (.cons (.assign 3 (.call (.bc (.obj 685)) (.cons (.var 0) (.cons (.bc (.tup [(.int 4),(.int 8),(.int 0),(.int 12),(.int 16),(.int 7),(.int 8),(.int 1),(.int 13),(.int 0),(.int (-512)),(.int (-1))])) .nil)))) (.cons (.ite (.cmp .Eq (.var 3) (.un .USub (.lit (.int 512)))) (.cons (.ret (.var 3)) .nil) .nil) (.cons (.ret (.ite (.cmp .Lt (.var 3) (.lit (.int 0))) (.un .USub (.var 2)) (.bin .Sub (.bin .Sub (.bj .min false (.cons (.var 3) (.cons (.bin .Sub (.lit (.int 24)) (.var 2)) .nil))) (.bin .Mult (.lit (.int 8)) (.var 1))) (.lit (.int 24))))) .nil)))⟩
noncomputable def rK:bw:=⟨2,[],[aa "well",aa "home",aa "way",aa "base",aa "one",aa "width",aa "off",aa "own",aa "deed",aa "number",aa "asks"],.stmts (.cons (.jk [2,3,4,5] (.cons (.call (.bc (.obj 678)) (.cons (.var 0) (.cons (.lit (.int 8)) .nil))) (.cons (.call (.bc (.obj 685)) (.cons (.var 0) (.cons (.tup (.cons (.lit (.int 10)) (.cons (.lit (.int 10)) (.cons (.lit (.int 7)) (.cons (.lit (.int 10)) .nil))))) .nil))) (.cons (.call (.bc (.obj 678)) (.cons (.var 0) (.cons (.lit (.int 10)) .nil))) (.cons (.call (.bc (.obj 685)) (.cons (.var 0) (.cons (.tup (.cons (.lit (.int 8)) (.cons (.lit (.int 4)) (.cons (.lit (.int 8)) (.cons (.lit (.int 2)) (.cons (.lit (.int 1)) .nil)))))) .nil))) .nil))))) (.cons (.ite (.cmp .Gt (.var 2) (.lit (.int 5))) (.cons (.assign 5 (.bj .max false (.cons (.var 5) (.cons (.lit (.int 4)) .nil)))) .nil) .nil) (.cons (.assign 6 (.call (.bc (.obj 692)) (.cons (.var 0) (.cons (.var 1) (.cons (.var 5) .nil))))) (.cons (.assign 7 (.ite (.cmp .Eq (.var 3) (.lit (.int 10))) (.bj .list false (.cons (.bj .range false (.cons (.var 6) (.cons (.bin .Add (.var 6) (.var 5)) .nil))) .nil)) (.lst false .nil))) (.cons (.ite (.cmp .Lt (.var 2) (.lit (.int 2))) (.cons (.lock [3,6,4,5]) (.cons (.ret (.tup (.cons (.lit (.str (aa "on"))) (.cons (.lam 6 [3,6,4,5]) (.cons (.lst false (.cons (.var 3) .nil)) (.cons (.lst false (.cons (.var 4) .nil)) (.cons (.var 7) (.cons (.lst false .nil) (.cons (.lit (.int 0)) .nil))))))))) .nil)) .nil) (.cons (.ite (.cmp .Eq (.var 2) (.lit (.int 2))) (.cons (.lock [3,6,4,5]) (.cons (.ret (.tup (.cons (.lit (.str (aa "on"))) (.cons (.lam 5 [3,6,4,5]) (.cons (.lst false (.cons (.var 3) .nil)) (.cons (.lst false (.cons (.var 4) .nil)) (.cons (.xy (.var 7) (.lit .none) (.lit (.int 4))) (.cons (.lst false .nil) (.cons (.lit (.int 0)) .nil))))))))) .nil)) .nil) (.cons (.ite (.cmp .Lt (.var 2) (.lit (.int 5))) (.cons (.lock [3,6,4,5]) (.cons (.ret (.tup (.cons (.lit (.str (aa "on"))) (.cons (.lam 4 [3,6,4,5]) (.cons (.lst false (.cons (.var 3) (.cons (.var 4) .nil))) (.cons (.lst false .nil) (.cons (.lst false .nil) (.cons (.var 7) (.cons (.lit (.int 0)) .nil))))))))) .nil)) .nil) (.cons (.ite (.cmp .Eq (.var 2) (.lit (.int 5))) (.cons (.lock [3,6,5]) (.cons (.ret (.tup (.cons (.lit (.str (aa "on"))) (.cons (.lam 3 [3,6,5]) (.cons (.lst false (.cons (.var 3) .nil)) (.cons (.lst false .nil) (.cons (.lst false .nil) (.cons (.var 7) (.cons (.lit (.int 0)) .nil))))))))) .nil)) .nil) (.cons (.unpack [8,9] (.call (.bc (.obj 685)) (.cons (.var 0) (.cons (.tup (.cons (.tup (.cons (.lit (.str (aa "add"))) (.cons (.un .USub (.lit (.int 1))) .nil))) (.cons (.tup (.cons (.lit (.str (aa "fetch_or"))) (.cons (.var 4) .nil))) (.cons (.tup (.cons (.lit (.str (aa "cmpxchg"))) (.cons (.lit (.int 0)) .nil))) (.cons (.tup (.cons (.lit (.str (aa "xchg"))) (.cons (.var 4) .nil))) .nil))))) .nil)))) (.cons (.assign 10 (.ite (.cmp .Eq (.var 8) (.lit (.str (aa "cmpxchg")))) (.lst false (.cons (.var 3) (.cons (.var 4) (.cons (.lit (.int 0)) .nil)))) (.lst false (.cons (.var 3) (.cons (.var 4) .nil))))) (.cons (.lock [3,8,6,4,5]) (.cons (.ret (.tup (.cons (.lit (.str (aa "on"))) (.cons (.lam 2 [3,8,6,4,5]) (.cons (.var 10) (.cons (.ite (.cmp .Lt (.var 9) (.lit (.int 0))) (.lst false .nil) (.lst false (.cons (.var 9) .nil))) (.cons (.var 7) (.cons (.lst false .nil) (.cons (.lit (.int 0)) .nil))))))))) .nil))))))))))))⟩
noncomputable def rL:bw:=⟨1,[],[aa "well",aa "way",aa "one",aa "other",aa "number",aa "count",aa "deed"],.stmts (.cons (.jk [1,2,3] (.cons (.call (.bc (.obj 678)) (.cons (.var 0) (.cons (.lit (.int 5)) .nil))) (.cons (.call (.bc (.obj 678)) (.cons (.var 0) (.cons (.lit (.int 10)) .nil))) (.cons (.call (.bc (.obj 678)) (.cons (.var 0) (.cons (.lit (.int 10)) .nil))) .nil)))) (.cons (.ite (.cmp .Eq (.var 1) (.lit (.int 0))) (.cons (.unpack [4,5] (.call (.bc (.obj 685)) (.cons (.var 0) (.cons (.bc (.tup [(.tup [(.int 7),(.int 0)]),(.tup [(.int 87),(.int 3)]),(.tup [(.int 2),(.int 4)]),(.tup [(.int 132),(.int 2)]),(.tup [(.int 131),(.int 3)]),(.tup [(.int 89),(.int 2)])])) .nil)))) (.cons (.lock [4]) (.cons (.ret (.tup (.cons (.lit (.str (aa "on"))) (.cons (.lam 11 [4]) (.cons (.bj .list false (.cons (.bj .range false (.cons (.lit (.int 1)) (.cons (.bin .Add (.var 5) (.lit (.int 1))) .nil))) .nil)) (.cons (.lst false (.cons (.lit (.int 0)) (.cons (.lit (.int 1)) (.cons (.lit (.int 2)) (.cons (.lit (.int 3)) (.cons (.lit (.int 4)) (.cons (.lit (.int 5)) .nil))))))) (.cons (.lst false .nil) (.cons (.lst false .nil) (.cons (.lit (.int 0)) .nil))))))))) .nil))) .nil) (.cons (.ite (.cmp .Eq (.var 1) (.lit (.int 1))) (.cons (.lock [2,3]) (.cons (.ret (.tup (.cons (.lit (.str (aa "branch"))) (.cons (.lam 10 [2,3]) (.cons (.lst false (.cons (.var 2) (.cons (.var 3) .nil))) (.cons (.lst false .nil) (.cons (.lst false .nil) (.cons (.lst false .nil) (.cons (.call (.bc (.obj 678)) (.cons (.var 0) (.cons (.lit (.int 12)) .nil))) .nil))))))))) .nil)) .nil) (.cons (.ite (.cmp .Eq (.var 1) (.lit (.int 2))) (.cons (.lock [2]) (.cons (.ret (.tup (.cons (.lit (.str (aa "branch"))) (.cons (.lam 9 [2]) (.cons (.lst false (.cons (.var 2) .nil)) (.cons (.lst false .nil) (.cons (.lst false .nil) (.cons (.lst false .nil) (.cons (.call (.bc (.obj 678)) (.cons (.var 0) (.cons (.lit (.int 12)) .nil))) .nil))))))))) .nil)) .nil) (.cons (.ite (.cmp .Eq (.var 1) (.lit (.int 3))) (.cons (.lock [2]) (.cons (.ret (.tup (.cons (.lit (.str (aa "on"))) (.cons (.lam 8 [2]) (.cons (.lst false .nil) (.cons (.lst false (.cons (.var 2) .nil)) (.cons (.lst false .nil) (.cons (.lst false .nil) (.cons (.lit (.int 0)) .nil))))))))) .nil)) .nil) (.cons (.assign 6 (.call (.bc (.obj 685)) (.cons (.var 0) (.cons (.tup (.cons (.lit (.str (aa "add"))) (.cons (.lit (.str (aa "mov"))) (.cons (.lit (.str (aa "xor"))) .nil)))) .nil)))) (.cons (.lock [6,2,3]) (.cons (.ret (.tup (.cons (.lit (.str (aa "on"))) (.cons (.lam 7 [6,2,3]) (.cons (.ite (.cmp .Eq (.var 6) (.lit (.str (aa "mov")))) (.lst false (.cons (.var 3) .nil)) (.lst false (.cons (.var 2) (.cons (.var 3) .nil)))) (.cons (.lst false (.cons (.var 2) .nil)) (.cons (.lst false .nil) (.cons (.lst false .nil) (.cons (.lit (.int 0)) .nil))))))))) .nil))))))))⟩
noncomputable def rM:bw:=⟨2,[],[aa "well",aa "home",aa "way",aa "one",aa "base",aa "off"],.stmts (.cons (.jk [2,3,4,5] (.cons (.call (.bc (.obj 678)) (.cons (.var 0) (.cons (.lit (.int 7)) .nil))) (.cons (.call (.bc (.obj 678)) (.cons (.var 0) (.cons (.lit (.int 10)) .nil))) (.cons (.call (.bc (.obj 685)) (.cons (.var 0) (.cons (.tup (.cons (.lit (.int 7)) (.cons (.lit (.int 10)) .nil))) .nil))) (.cons (.call (.bc (.obj 692)) (.cons (.var 0) (.cons (.var 1) (.cons (.lit (.int 8)) .nil)))) .nil))))) (.cons (.ite (.cmp .Eq (.var 2) (.lit (.int 0))) (.cons (.lock [3]) (.cons (.ret (.tup (.cons (.lit (.str (aa "on"))) (.cons (.lam 18 [3]) (.cons (.lst false (.cons (.var 3) (.cons (.lit (.int 10)) .nil))) (.cons (.lst false (.cons (.var 3) .nil)) (.cons (.lst false .nil) (.cons (.lst false .nil) (.cons (.lit (.int 0)) .nil))))))))) .nil)) .nil) (.cons (.ite (.cmp .Eq (.var 2) (.lit (.int 1))) (.cons (.lock [3]) (.cons (.ret (.tup (.cons (.lit (.str (aa "branch"))) (.cons (.lam 17 [3]) (.cons (.lst false (.cons (.var 3) (.cons (.lit (.int 10)) .nil))) (.cons (.lst false .nil) (.cons (.lst false .nil) (.cons (.lst false .nil) (.cons (.call (.bc (.obj 678)) (.cons (.var 0) (.cons (.lit (.int 12)) .nil))) .nil))))))))) .nil)) .nil) (.cons (.ite (.cmp .Eq (.var 2) (.lit (.int 2))) (.cons (.lock [3]) (.cons (.ret (.tup (.cons (.lit (.str (aa "branch"))) (.cons (.lam 16 [3]) (.cons (.lst false (.cons (.var 3) (.cons (.lit (.int 10)) .nil))) (.cons (.lst false .nil) (.cons (.lst false .nil) (.cons (.lst false .nil) (.cons (.call (.bc (.obj 678)) (.cons (.var 0) (.cons (.lit (.int 12)) .nil))) .nil))))))))) .nil)) .nil) (.cons (.ite (.cmp .Eq (.var 2) (.lit (.int 3))) (.cons (.ret (.tup (.cons (.lit (.str (aa "branch"))) (.cons (.lam 15 []) (.cons (.lst false (.cons (.lit (.int 10)) .nil)) (.cons (.lst false .nil) (.cons (.lst false .nil) (.cons (.lst false .nil) (.cons (.call (.bc (.obj 678)) (.cons (.var 0) (.cons (.lit (.int 12)) .nil))) .nil))))))))) .nil) .nil) (.cons (.ite (.cmp .Eq (.var 2) (.lit (.int 4))) (.cons (.lock [4,5]) (.cons (.ret (.tup (.cons (.lit (.str (aa "on"))) (.cons (.lam 14 [4,5]) (.cons (.lst false (.cons (.var 4) (.cons (.lit (.int 10)) .nil))) (.cons (.lst false .nil) (.cons (.lst false .nil) (.cons (.lst false .nil) (.cons (.lit (.int 0)) .nil))))))))) .nil)) .nil) (.cons (.ite (.cmp .Eq (.var 2) (.lit (.int 5))) (.cons (.lock [4,5]) (.cons (.ret (.tup (.cons (.lit (.str (aa "on"))) (.cons (.lam 13 [4,5]) (.cons (.lst false (.cons (.var 4) (.cons (.lit (.int 10)) .nil))) (.cons (.lst false .nil) (.cons (.lst false .nil) (.cons (.lst false .nil) (.cons (.lit (.int 0)) .nil))))))))) .nil)) .nil) (.cons (.lock [3]) (.cons (.ret (.tup (.cons (.lit (.str (aa "on"))) (.cons (.lam 12 [3]) (.cons (.lst false (.cons (.lit (.int 10)) .nil)) (.cons (.lst false (.cons (.var 3) .nil)) (.cons (.lst false .nil) (.cons (.lst false .nil) (.cons (.lit (.int 0)) .nil))))))))) .nil)))))))))⟩
noncomputable def kl:bw:=⟨2,[],[aa "well",aa "is_calling",aa "home",aa "many",aa "is_loose",aa "spot",aa "gate",aa "found",aa "turn",aa "kind"],.stmts (.cons (.jk [2,3,4] (.cons (.call (.bc (.obj 678)) (.cons (.var 0) (.cons (.lit (.int 62)) .nil))) (.cons (.bin .Add (.lit (.int 2)) (.call (.bc (.obj 678)) (.cons (.var 0) (.cons (.lit (.int 3)) .nil)))) (.cons (.cmp .Eq (.call (.bc (.obj 678)) (.cons (.var 0) (.cons (.lit (.int 3)) .nil))) (.lit (.int 1))) .nil)))) (.cons (.jk [5,6,7] (.cons (.call (.bc (.obj 678)) (.cons (.var 0) (.cons (.var 3) .nil))) (.cons (.call (.bc (.obj 678)) (.cons (.var 0) (.cons (.var 3) .nil))) (.cons (.lst true .nil) .nil)))) (.cons (.for [8] (.bj .range false (.cons (.var 3) .nil)) (.cons (.ite (.ic (.cons (.var 1) (.cons (.cmp .Eq (.var 8) (.var 6)) .nil))) (.cons (.append (.v 7) (.tup (.cons (.lit (.str (aa "call"))) (.cons (.bc (.obj 426)) (.cons (.lst false (.cons (.lit (.int 1)) (.cons (.lit (.int 2)) (.cons (.lit (.int 3)) (.cons (.lit (.int 4)) (.cons (.lit (.int 5)) .nil)))))) (.cons (.lst false (.cons (.lit (.int 0)) (.cons (.lit (.int 1)) (.cons (.lit (.int 2)) (.cons (.lit (.int 3)) (.cons (.lit (.int 4)) (.cons (.lit (.int 5)) .nil))))))) (.cons (.lst false .nil) (.cons (.lst false .nil) (.cons (.lit (.int 0)) .nil))))))))) .nil) .nil) (.cons (.assign 9 (.call (.bc (.obj 678)) (.cons (.var 0) (.cons (.lit (.int 10)) .nil)))) (.cons (.ite (.ic (.cons (.var 4) (.cons (.cmp .Eq (.var 8) (.var 5)) .nil))) (.cons (.append (.v 7) (.call (.bc (.obj 713)) (.cons (.var 0) (.cons (.var 2) .nil)))) .nil) (.cons (.ite (.cmp .Lt (.var 9) (.lit (.int 6))) (.cons (.append (.v 7) (.call (.bc (.obj 699)) (.cons (.var 0) (.cons (.var 2) .nil)))) .nil) (.cons (.ite (.cmp .Lt (.var 9) (.lit (.int 9))) (.cons (.append (.v 7) (.call (.bc (.obj 706)) (.cons (.var 0) .nil))) .nil) (.cons (.append (.v 7) (.tup (.cons (.lit (.str (aa "branch"))) (.cons (.lam 20 []) (.cons (.lst false (.cons (.lit (.int 6)) .nil)) (.cons (.lst false .nil) (.cons (.lst false .nil) (.cons (.lst false .nil) (.cons (.bin .Add (.bj .len false (.cons (.var 7) .nil)) (.lit (.int 2))) .nil))))))))) (.cons (.append (.v 7) (.tup (.cons (.lit (.str (aa "jump"))) (.cons (.call (.bc (.obj 685)) (.cons (.var 0) (.cons (.tup (.cons (.bc (.obj 347)) (.cons (.bc (.obj 354)) .nil))) .nil))) (.cons (.lst false .nil) (.cons (.lst false .nil) (.cons (.lst false .nil) (.cons (.lst false .nil) (.cons (.call (.bc (.obj 678)) (.cons (.var 0) (.cons (.lit (.int 12)) .nil))) .nil))))))))) .nil))) .nil)) .nil)) .nil)))) (.cons (.ret (.tup (.cons (.bin .Add (.var 7) (.lst false (.cons (.tup (.cons (.lit (.str (aa "exit"))) (.cons (.lam 19 []) (.cons (.lst false (.cons (.lit (.int 0)) .nil)) (.cons (.lst false .nil) (.cons (.lst false .nil) (.cons (.lst false .nil) (.cons (.lit (.int 0)) .nil)))))))) .nil))) (.cons (.var 4) .nil)))) .nil))))⟩
noncomputable def zP:bw:=⟨2,[],[aa "rows",aa "at",aa "word",aa "aim"],.stmts (.cons (.jk [2,3] (.cons (.idx (.idx (.var 0) (.var 1)) (.lit (.int 0))) (.cons (.bin .Mod (.idx (.idx (.var 0) (.var 1)) (.lit (.int 6))) (.bj .len false (.cons (.var 0) .nil))) .nil))) (.cons (.ite (.cmp .Eq (.var 2) (.lit (.str (aa "exit")))) (.cons (.ret (.lst false .nil)) .nil) .nil) (.cons (.ite (.cmp .Eq (.var 2) (.lit (.str (aa "jump")))) (.cons (.ret (.lst false (.cons (.var 3) .nil))) .nil) .nil) (.cons (.ret (.ite (.cmp .Eq (.var 2) (.lit (.str (aa "branch")))) (.lst false (.cons (.bin .Add (.var 1) (.lit (.int 1))) (.cons (.var 3) .nil))) (.lst false (.cons (.bin .Add (.var 1) (.lit (.int 1))) .nil)))) .nil))))⟩
noncomputable def ml:bw:=⟨3,[],[aa "nexts",aa "asks",aa "lays",aa "found",aa "ahead",aa "waiting",aa "at",aa "thing"],.stmts (.cons (.assign 3 (.sX 1 [] (.var 0) 0)) (.cons (.assign 4 (.comp false 1 [0] (.bj .range false (.cons (.bj .len false (.cons (.var 0) .nil)) .nil)) [0] .nil (.emit (.comp false 1 [0,1] (.bj .range false (.cons (.bj .len false (.cons (.var 1) .nil)) .nil)) [0] (.cons (.cmp .In (.var 1) (.idx (.var 2) (.var 0))) .nil) (.emit (.var 0)))))) (.cons (.assign 5 (.comp true 2 [1] (.bj .range false (.cons (.bj .len false (.cons (.var 0) .nil)) .nil)) [0] .nil (.gen (.idx (.var 2) (.var 0)) [1] .nil (.emit (.tup (.cons (.var 0) (.cons (.var 1) .nil))))))) (.cons (.while (.cmp .NotEq (.var 5) (.lst false .nil)) (.cons (.pop [6,7] false 5) (.cons (.ite (.cmp .NotIn (.var 7) (.idx (.var 3) (.var 6))) (.cons (.append (.at 3 (.var 6)) (.var 7)) (.cons (.extend (.v 5) (.comp false 1 [2,7] (.idx (.var 4) (.var 6)) [0] (.cons (.cmp .NotIn (.var 2) (.idx (.var 1) (.var 0))) .nil) (.emit (.tup (.cons (.var 0) (.cons (.var 2) .nil)))))) .nil)) .nil) .nil))) (.cons (.fz 3) (.cons (.ret (.var 3)) .nil))))))⟩
noncomputable def zO:bw:=⟨2,[],[aa "rows",aa "nexts",aa "asks",aa "touched"],.stmts (.cons (.assign 2 (.comp false 1 [] (.var 0) [0] .nil (.emit (.comp false 1 [] (.idx (.var 0) (.lit (.int 4))) [0] .nil (.emit (.bin .FloorDiv (.bin .Sub (.un .USub (.var 0)) (.lit (.int 1))) (.lit (.int 8)))))))) (.cons (.assign 3 (.comp false 1 [] (.var 0) [0] .nil (.emit (.comp false 1 [] (.idx (.var 0) (.lit (.int 5))) [0] .nil (.emit (.bin .FloorDiv (.bin .Sub (.un .USub (.var 0)) (.lit (.int 1))) (.lit (.int 8)))))))) (.cons (.ret (.call (.bc (.obj 732)) (.cons (.var 1) (.cons (.var 2) (.cons (.comp false 1 [] (.var 3) [0] .nil (.emit (.comp false 1 [0] (.var 0) [0] (.cons (.cmp .Eq (.ef .count (.var 1) (.cons (.var 0) .nil)) (.lit (.int 8))) .nil) (.emit (.var 0))))) .nil))))) .nil)))⟩
noncomputable def DQ:bw:=⟨1,[],[aa "things"],.stmts (.cons (.ret (.bj .sum false (.cons (.comp false 1 [] (.var 0) [0] .nil (.emit (.bin .Pow (.lit (.int 2)) (.var 0)))) .nil))) .nil)⟩
noncomputable def jm:bw:=⟨1,[],[aa "script",aa "well",aa "many",aa "parts",aa "found",aa "registers",aa "slots",aa "idle",aa "rows",aa "is_loose",aa "begin",aa "nexts",aa "counted",aa "at",aa "goal",aa "program",aa "mask",aa "numbers"],.stmts (.cons (.assign 1 (.call (.bc (.obj 671)) (.cons (.var 0) .nil))) (.cons (.assign 2 (.bin .Add (.lit (.int 1)) (.call (.bc (.obj 678)) (.cons (.var 1) (.cons (.lit (.int 3)) .nil))))) (.cons (.assign 3 (.comp false 1 [2,1] (.bj .range false (.cons (.var 2) .nil)) [0] .nil (.emit (.call (.bc (.obj 720)) (.cons (.var 2) (.cons (.cmp .Lt (.var 0) (.bin .Sub (.var 1) (.lit (.int 1)))) .nil)))))) (.cons (.jk [4,5,6,7] (.cons (.lst true .nil) (.cons (.lst true .nil) (.cons (.lst true .nil) (.cons (.lst true .nil) .nil))))) (.cons (.for [8,9] (.var 3) (.cons (.jk [10,11] (.cons (.bj .len false (.cons (.var 4) .nil)) (.cons (.comp false 1 [8] (.bj .range false (.cons (.bj .len false (.cons (.var 8) .nil)) .nil)) [0] .nil (.emit (.call (.bc (.obj 727)) (.cons (.var 1) (.cons (.var 0) .nil))))) .nil))) (.cons (.assign 12 (.call (.bc (.obj 732)) (.cons (.var 11) (.cons (.comp false 1 [] (.var 8) [0] .nil (.emit (.idx (.var 0) (.lit (.int 2))))) (.cons (.comp false 1 [] (.var 8) [0] .nil (.emit (.idx (.var 0) (.lit (.int 3))))) .nil))))) (.cons (.for [13] (.bj .range false (.cons (.bj .len false (.cons (.var 8) .nil)) .nil)) (.cons (.assign 14 (.ite (.cmp .Eq (.idx (.idx (.var 8) (.var 13)) (.lit (.int 0))) (.lit (.str (aa "call")))) (.bj .len false (.cons (.var 8) .nil)) (.bin .Mod (.idx (.idx (.var 8) (.var 13)) (.lit (.int 6))) (.bj .len false (.cons (.var 8) .nil))))) (.cons (.append (.v 4) (.call (.idx (.idx (.var 8) (.var 13)) (.lit (.int 1))) (.cons (.bin .Sub (.bin .Sub (.var 14) (.var 13)) (.lit (.int 1))) .nil))) (.cons (.ite (.ic (.cons (.cmp .In (.bin .BitAnd (.attr (.idx (.var 4) (.un .USub (.lit (.int 1)))) 5) (.lit (.int 7))) (.tup (.cons (.lit (.int 4)) (.cons (.lit (.int 7)) .nil)))) (.cons (.cmp .Eq (.comp false 1 [13,12,8] (.idx (.var 11) (.var 13)) [0] (.cons (.cmp .In (.idx (.idx (.idx (.var 3) (.var 1)) (.lit (.int 3))) (.lit (.int 0))) (.idx (.var 2) (.var 0))) .nil) (.emit (.var 0))) (.lst false .nil)) .nil))) (.cons (.append (.v 7) (.bin .Add (.var 10) (.var 13))) .nil) .nil) .nil)))) (.cons (.extend (.v 5) (.comp false 1 [] (.var 12) [0] .nil (.emit (.call (.bc (.obj 742)) (.cons (.var 0) .nil))))) (.cons (.extend (.v 6) (.comp false 1 [9] (.call (.bc (.obj 737)) (.cons (.var 8) (.cons (.var 11) .nil))) [0] .nil (.emit (.ite (.var 1) (.bin .Sub (.bin .Pow (.lit (.int 2)) (.lit (.int 64))) (.lit (.int 1))) (.call (.bc (.obj 742)) (.cons (.var 0) .nil)))))) .nil)))))) (.cons (.assign 15 (.call (.bc (.obj 571)) (.cons (.var 4) .nil))) (.cons (.ite (.uJ (.cons (.cmp .NotEq (.call (.bc (.obj 609)) (.cons (.var 15) .nil)) (.var 5)) (.cons (.cmp .NotEq (.call (.bc (.obj 649)) (.cons (.var 15) .nil)) (.var 6)) (.cons (.cmp .NotEq (.call (.bc (.obj 656)) (.cons (.var 15) .nil)) (.var 7)) .nil)))) (.cons (.ret (.lit (.bool false))) .nil) .nil) (.cons (.for [16] (.lst false (.cons (.call (.bc (.obj 678)) (.cons (.var 1) (.cons (.bin .Pow (.lit (.int 2)) (.lit (.int 64))) .nil))) (.cons (.idx (.var 5) (.lit (.int 0))) (.cons (.idx (.var 6) (.lit (.int 0))) .nil)))) (.cons (.assign 17 (.comp false 1 [16] (.bj .range false (.cons (.lit (.int 64)) .nil)) [0] (.cons (.cmp .Eq (.bin .BitAnd (.bin .RShift (.var 1) (.var 0)) (.lit (.int 1))) (.lit (.int 1))) .nil) (.emit (.var 0)))) (.cons (.ite (.uJ (.cons (.cmp .NotEq (.call (.bc (.obj 583)) (.cons (.var 16) .nil)) (.var 17)) (.cons (.cmp .NotEq (.call (.bc (.obj 578)) (.cons (.bin .Add (.rev (.var 17)) (.xy (.var 17) (.lit .none) (.lit (.int 1)))) .nil)) (.var 16)) .nil))) (.cons (.ret (.lit (.bool false))) .nil) .nil) .nil))) (.cons (.ret (.lit (.bool true))) .nil)))))))))⟩
noncomputable def Wq:bw:=⟨2,[],[aa "at",aa "mask",aa "pairs"],(.stmts (.cons (.ret (.bin .BitOr (.bin .BitAnd (.var 1) (.un .Invert (.idx (.idx (.var 2) (.var 0)) (.lit (.int 1))))) (.idx (.idx (.var 2) (.var 0)) (.lit (.int 0))))) .nil))⟩
noncomputable def Wo:bw:=⟨2,[],[aa "at",aa "mask",aa "open_ones",aa "pairs"],(.stmts (.cons (.ret (.ite (.idx (.var 2) (.var 0)) (.bc (.int 18446744073709551615)) (.bin .BitOr (.bin .BitAnd (.var 1) (.un .Invert (.idx (.idx (.var 3) (.var 0)) (.lit (.int 1))))) (.idx (.idx (.var 3) (.var 0)) (.lit (.int 0)))))) .nil))⟩
noncomputable def Wn:bw:=⟨1,[],[aa "away",aa "base",aa "deed",aa "off",aa "one",aa "width"],(.expr (.call (.bc (.obj 412)) (.cons (.var 2) (.cons (.var 5) (.cons (.var 1) (.cons (.var 3) (.cons (.var 4) .nil)))))))⟩
noncomputable def Wm:bw:=⟨1,[],[aa "away",aa "base",aa "off",aa "width"],(.expr (.call (.bc (.obj 398)) (.cons (.var 3) (.cons (.var 1) (.cons (.var 2) (.cons (.lit (.int 3)) .nil))))))⟩
noncomputable def Wl:bw:=⟨1,[],[aa "away",aa "base",aa "off",aa "one",aa "width"],(.expr (.call (.bc (.obj 391)) (.cons (.var 4) (.cons (.var 1) (.cons (.var 2) (.cons (.var 3) .nil))))))⟩
noncomputable def Wj:bw:=⟨1,[],[aa "away",aa "base",aa "off",aa "one",aa "width"],(.expr (.call (.bc (.obj 384)) (.cons (.bj .min false (.cons (.var 4) (.cons (.lit (.int 4)) .nil))) (.cons (.var 3) (.cons (.var 1) (.cons (.var 2) .nil))))))⟩
noncomputable def Wi:bw:=⟨1,[],[aa "away",aa "base",aa "off",aa "one",aa "width"],(.expr (.call (.bc (.obj 377)) (.cons (.var 4) (.cons (.var 3) (.cons (.var 1) (.cons (.var 2) .nil))))))⟩
noncomputable def Wh:bw:=⟨1,[],[aa "away",aa "deed",aa "one",aa "other"],(.expr (.call (.bc (.obj 332)) (.cons (.var 1) (.cons (.var 2) (.cons (.var 3) .nil)))))⟩
noncomputable def Wg:bw:=⟨1,[],[aa "away",aa "one"],(.expr (.call (.bc (.obj 340)) (.cons (.lit (.str (aa "mov"))) (.cons (.var 1) (.cons (.lit (.int 5)) .nil)))))⟩
noncomputable def Wf:bw:=⟨1,[],[aa "away",aa "one"],(.expr (.call (.bc (.obj 370)) (.cons (.lit (.str (aa "set"))) (.cons (.var 1) (.cons (.lit (.int 6)) (.cons (.var 0) .nil))))))⟩
noncomputable def S9:bw:=⟨1,[],[aa "away",aa "one",aa "other"],(.expr (.call (.bc (.obj 362)) (.cons (.lit (.str (aa "sgt"))) (.cons (.var 1) (.cons (.var 2) (.cons (.var 0) .nil))))))⟩
noncomputable def S8:bw:=⟨1,[],[aa "away",aa "number"],(.expr (.call (.bc (.obj 419)) (.cons (.var 1) .nil)))⟩
noncomputable def S6:bw:=⟨1,[],[aa "away",aa "one"],(.expr (.call (.bc (.obj 332)) (.cons (.lit (.str (aa "mov"))) (.cons (.var 1) (.cons (.lit (.int 10)) .nil)))))⟩
noncomputable def S5:bw:=⟨1,[],[aa "away",aa "base",aa "off"],(.expr (.call (.bc (.obj 412)) (.cons (.lit (.str (aa "xor"))) (.cons (.lit (.int 8)) (.cons (.var 1) (.cons (.var 2) (.cons (.lit (.int 10)) .nil)))))))⟩
noncomputable def S4:bw:=⟨1,[],[aa "away",aa "base",aa "off"],(.expr (.call (.bc (.obj 391)) (.cons (.lit (.int 8)) (.cons (.var 1) (.cons (.var 2) (.cons (.lit (.int 10)) .nil))))))⟩
noncomputable def S3:bw:=⟨1,[],[aa "away"],(.expr (.call (.bc (.obj 370)) (.cons (.lit (.str (aa "ne"))) (.cons (.lit (.int 10)) (.cons (.lit (.int 1)) (.cons (.var 0) .nil))))))⟩
noncomputable def S2:bw:=⟨1,[],[aa "away",aa "one"],(.expr (.call (.bc (.obj 362)) (.cons (.lit (.str (aa "lt"))) (.cons (.var 1) (.cons (.lit (.int 10)) (.cons (.var 0) .nil))))))⟩
noncomputable def S0:bw:=⟨1,[],[aa "away",aa "one"],(.expr (.call (.bc (.obj 362)) (.cons (.lit (.str (aa "ge"))) (.cons (.lit (.int 10)) (.cons (.var 1) (.cons (.var 0) .nil))))))⟩
noncomputable def SY:bw:=⟨1,[],[aa "away",aa "one"],(.expr (.call (.bc (.obj 332)) (.cons (.lit (.str (aa "add"))) (.cons (.var 1) (.cons (.lit (.int 10)) .nil)))))⟩
noncomputable def SX:bw:=⟨1,[],[aa "away"],(.expr (.call (.bc (.obj 433)) .nil))⟩
noncomputable def SW:bw:=⟨1,[],[aa "away"],(.expr (.call (.bc (.obj 370)) (.cons (.lit (.str (aa "eq"))) (.cons (.lit (.int 6)) (.cons (.lit (.int 0)) (.cons (.var 0) .nil))))))⟩
def LT:List bw:=[Wq,Wo,Wn,Wm,Wl,Wj,Wi,Wh,Wg,Wf,S9,S8,S6,S5,S4,S3,S2,S0,SY,SX,SW]
noncomputable def GT:List (bA×FV):=[(aa "bit_count",(.obj 73)),(aa "LOOKUP",(.int 1)),(aa "UPDATE",(.int 2)),(aa "DELETE",(.int 3)),(aa "CLOCK",(.int 5)),(aa "PRINT",(.int 6)),(aa "RANDOM",(.int 7)),(aa "PROCESSOR",(.int 8)),(aa "PUSH",(.int 87)),(aa "POP",(.int 88)),(aa "PEEK",(.int 89)),(aa "OUTPUT",(.int 130)),(aa "RESERVE",(.int 131)),(aa "SUBMIT",(.int 132)),(aa "DISCARD",(.int 133)),(aa "Helper",(.obj 97)),(aa "helper_rows",(.obj 108)),(aa "helper_of",(.obj 115)),(aa "LD",(.int 0)),(aa "LDX",(.int 1)),(aa "ST",(.int 2)),(aa "STX",(.int 3)),(aa "ALU",(.int 4)),(aa "JMP",(.int 5)),(aa "JMP32",(.int 6)),(aa "ALU64",(.int 7)),(aa "BY_REGISTER",(.int 8)),(aa "WIDE",(.int 24)),(aa "CALL",(.int 133)),(aa "EXIT",(.int 149)),(aa "MODE_MEM",(.int 96)),(aa "MODE_MEMSX",(.int 128)),(aa "MODE_ATOMIC",(.int 192)),(aa "FETCH",(.int 1)),(aa "XCHG",(.int 225)),(aa "CMPXCHG",(.int 241)),(aa "CLASSES",(.str (aa "ld   ldx  st   stx  alu  jmp  jmp32alu64"))),(aa "DEEDS",(.str (aa "add sub mul div or  and lsh rsh neg mod xor mov arshend "))),(aa "JUMPS",(.str (aa "ja  eq  gt  ge  set ne  sgt sge callexitlt  le  slt sle "))),(aa "KNOWN",(.int 14)),(aa "Order",(.obj 140)),(aa "class_of",(.obj 151)),(aa "is_alu",(.obj 158)),(aa "is_jumping",(.obj 165)),(aa "operation",(.obj 172)),(aa "is_register",(.obj 179)),(aa "width_of",(.obj 186)),(aa "is_wide",(.obj 193)),(aa "is_jump",(.obj 200)),(aa "is_call",(.obj 207)),(aa "is_local_call",(.obj 214)),(aa "is_exit",(.obj 221)),(aa "is_branch",(.obj 228)),(aa "is_load",(.obj 235)),(aa "is_store",(.obj 242)),(aa "is_atomic",(.obj 249)),(aa "distance",(.obj 256)),(aa "atomic_name",(.obj 263)),(aa "each_once",(.obj 268)),(aa "alu_uses",(.obj 275)),(aa "jump_uses",(.obj 282)),(aa "atomic_uses",(.obj 289)),(aa "uses",(.obj 296)),(aa "spot_of",(.obj 303)),(aa "deed_code",(.obj 310)),(aa "branch_code",(.obj 317)),(aa "width_code",(.obj 324)),(aa "alu_reg",(.obj 332)),(aa "alu_imm",(.obj 340)),(aa "jump",(.obj 347)),(aa "far_jump",(.obj 354)),(aa "branch_reg",(.obj 362)),(aa "branch_imm",(.obj 370)),(aa "load",(.obj 377)),(aa "load_sx",(.obj 384)),(aa "store",(.obj 391)),(aa "store_imm",(.obj 398)),(aa "atomic_code",(.obj 405)),(aa "atomic",(.obj 412)),(aa "call",(.obj 419)),(aa "local_call",(.obj 426)),(aa "leave",(.obj 433)),(aa "MOST_ORDERS",(.int 4096)),(aa "MOST_FRAMES",(.int 8)),(aa "Program",(.obj 490)),(aa "has_goal",(.obj 501)),(aa "successors",(.obj 508)),(aa "local_calls",(.obj 513)),(aa "reachable",(.obj 518)),(aa "calls_of",(.obj 525)),(aa "called_by",(.obj 530)),(aa "frame_counts",(.obj 535)),(aa "check_goals",(.obj 542)),(aa "check_ends",(.obj 549)),(aa "check_reached",(.obj 556)),(aa "check_calls",(.obj 563)),(aa "check_program",(.obj 571)),(aa "FRAME",(.int 10)),(aa "ALL_SLOTS",(.int 18446744073709551615)),(aa "WRITTEN_BY_CALLS",(.int 63)),(aa "mask_of",(.obj 578)),(aa "numbers_in",(.obj 583)),(aa "call_reads",(.obj 590)),(aa "register_masks",(.obj 597)),(aa "settle",(.obj 604)),(aa "live_registers",(.obj 609)),(aa "slots_touched",(.obj 616)),(aa "is_whole_slot",(.obj 623)),(aa "slot_masks",(.obj 630)),(aa "leaks_frame",(.obj 637)),(aa "leaking_subs",(.obj 644)),(aa "live_slots",(.obj 649)),(aa "dead_orders",(.obj 656)),(aa "_law_SPOTS",(.tup [(.int 4),(.int 8),(.int 0),(.int 12),(.int 16),(.int 7),(.int 8),(.int 1),(.int 13),(.int 0),(.int (-512)),(.int (-1))])),(aa "_law_CALLS",(.tup [(.tup [(.int 7),(.int 0)]),(.tup [(.int 87),(.int 3)]),(.tup [(.int 2),(.int 4)]),(.tup [(.int 132),(.int 2)]),(.tup [(.int 131),(.int 3)]),(.tup [(.int 89),(.int 2)])])),(aa "_law_well",(.obj 671)),(aa "_law_take",(.obj 678)),(aa "_law_of",(.obj 685)),(aa "_law_off",(.obj 692)),(aa "_law_touch",(.obj 699)),(aa "_law_plain",(.obj 706)),(aa "_law_loose",(.obj 713)),(aa "_law_part",(.obj 720)),(aa "_law_nexts",(.obj 727)),(aa "_law_spread",(.obj 732)),(aa "_law_slots",(.obj 737)),(aa "_law_sum",(.obj 742)),(aa "law",(.obj 747))]
def FT(a:Nat):Option bw:=
 if a<433 then(if a<275 then(if a<200 then(if a<165 then(if a<115 then(if a<108 then(if a=73 then some zW else ab)else(if a=108 then some wa else ab))else(if a<151 then(if a=115 then some zT else ab)else(if a<158 then(if a=151 then some BG else ab)else(if a=158 then some HK else ab))))else(if a<179 then(if a<172 then(if a=165 then some xN else ab)else(if a=172 then some zN else ab))else(if a<186 then(if a=179 then some v_ else ab)else(if a<193 then(if a=186 then some Bz else ab)else(if a=193 then some DS else ab)))))else(if a<235 then(if a<214 then(if a<207 then(if a=200 then some DU else ab)else(if a=207 then some DW else ab))else(if a<221 then(if a=214 then some sJ else ab)else(if a<228 then(if a=221 then some DV else ab)else(if a=228 then some zR else ab))))else(if a<256 then(if a<242 then(if a=235 then some DT else ab)else(if a<249 then(if a=242 then some BB else ab)else(if a=249 then some zS else ab)))else(if a<263 then(if a=256 then some BE else ab)else(if a<268 then(if a=263 then some we else ab)else(if a=268 then some zU else ab))))))else(if a<354 then(if a<310 then(if a<289 then(if a<282 then(if a=275 then some BH else ab)else(if a=282 then some zQ else ab))else(if a<296 then(if a=289 then some wc else ab)else(if a<303 then(if a=296 then some OM else ab)else(if a=303 then some DN else ab))))else(if a<332 then(if a<317 then(if a=310 then some zV else ab)else(if a<324 then(if a=317 then some wb else ab)else(if a=324 then some xG else ab)))else(if a<340 then(if a=332 then some DX else ab)else(if a<347 then(if a=340 then some DY else ab)else(if a=347 then some OO else ab)))))else(if a<391 then(if a<370 then(if a<362 then(if a=354 then some BD else ab)else(if a=362 then some xP else ab))else(if a<377 then(if a=370 then some xQ else ab)else(if a<384 then(if a=377 then some ON else ab)else(if a=384 then some DP else ab))))else(if a<412 then(if a<398 then(if a=391 then some KS else ab)else(if a<405 then(if a=398 then some zM else ab)else(if a=405 then some wg else ab)))else(if a<419 then(if a=412 then some HL else ab)else(if a<426 then(if a=419 then some OP else ab)else(if a=426 then some xK else ab)))))))else(if a<604 then(if a<530 then(if a<482 then(if a<461 then(if a<454 then(if a=433 then some KU else ab)else(if a=454 then some sM else ab))else(if a<468 then(if a=461 then some o4 else ab)else(if a<475 then(if a=468 then some rN else ab)else(if a=475 then some gN else ab))))else(if a<513 then(if a<501 then(if a=482 then some gk else ab)else(if a<508 then(if a=501 then some BC else ab)else(if a=508 then some xH else ab)))else(if a<518 then(if a=513 then some vZ else ab)else(if a<525 then(if a=518 then some jl else ab)else(if a=525 then some oZ else ab)))))else(if a<563 then(if a<542 then(if a<535 then(if a=530 then some kQ else ab)else(if a=535 then some fp else ab))else(if a<549 then(if a=542 then some gW else ab)else(if a<556 then(if a=549 then some qq else ab)else(if a=556 then some mM else ab))))else(if a<583 then(if a<571 then(if a=563 then some jo else ab)else(if a<578 then(if a=571 then some sL else ab)else(if a=578 then some DO else ab)))else(if a<590 then(if a=583 then some xJ else ab)else(if a<597 then(if a=590 then some xO else ab)else(if a=597 then some rI else ab))))))else(if a<685 then(if a<637 then(if a<616 then(if a<609 then(if a=604 then some jS else ab)else(if a=609 then some rJ else ab))else(if a<623 then(if a=616 then some sH else ab)else(if a<630 then(if a=623 then some sI else ab)else(if a=630 then some xI else ab))))else(if a<656 then(if a<644 then(if a=637 then some v9 else ab)else(if a<649 then(if a=644 then some iJ else ab)else(if a=649 then some xM else ab)))else(if a<671 then(if a=656 then some lB else ab)else(if a<678 then(if a=671 then some tO else ab)else(if a=678 then some BA else ab)))))else(if a<720 then(if a<699 then(if a<692 then(if a=685 then some HJ else ab)else(if a=692 then some DR else ab))else(if a<706 then(if a=699 then some rK else ab)else(if a<713 then(if a=706 then some rL else ab)else(if a=713 then some rM else ab))))else(if a<737 then(if a<727 then(if a=720 then some kl else ab)else(if a<732 then(if a=727 then some zP else ab)else(if a=732 then some ml else ab)))else(if a<742 then(if a=737 then some zO else ab)else(if a<747 then(if a=742 then some DQ else ab)else(if a=747 then some jm else ab)))))))
def CT(a:Nat):Option bw:=if a=97 then some jT else if a=140 then some kC else if a=490 then some dP else ab
def au(N:Nat):Nat->my
 |0=>λ_ _ _=>ab
 |k+1=>λf args wl=>match f with
  |.obj a=>(FT a).elim ((CT a).bind λg=>runC (au N k) N a g args wl) λg=>C6 (au N k) N g [] args wl
  |.mB j aX=>(LT[j]?).bind λg=>C6 (au N k) N g aX args wl
  |_=>ab
noncomputable def uW:Const->Option FV
 |.none=>some .none
 |.bool b=>some (.bool b)
 |.int i=>some (.int i)
 |.str s=>some (.str s)
 |_=>ab
noncomputable def BI.word:BI->bA
 |.len=>"len"|.range=>"range"|.list=>"list"|.set=>"set"|.abs=>"abs"|.int=>"int"|.max=>"max"|.min=>"min"|.sum=>"sum"|.sorted=>"sorted"
noncomputable def BI.val:BI->aB
 |.len=>.builtin "len"|.range=>.type "range"|.list=>.type "list"|.set=>.type "set"|.abs=>.builtin "abs"|.int=>.type "int"|.max=>.builtin "max"|.min=>.builtin "min"|.sum=>.builtin "sum"|.sorted=>.builtin "sorted"
def ME.word:ME->bA
 |.strip=>"strip"|.count=>"count"|.user k=>Ij k
where Ij (k:Nat):bA:=gC.getD k "?"
noncomputable def uE(e:af)(k:BoolOp->List af->dK->Bool):Bool:=if h:e.ctorIdx=0 then rZ (motive_1:=λ_=>Bool) e h k else false
@[elab_as_elim] theorem FJ{P:af->Prop}{k:BoolOp->List af->dK->Bool}(h:uE e k=true)(f:∀a b c,k a b c=true->P (.BoolOp a b c)):P e:=if c:e.ctorIdx=0 then rZ (motive_1:=λe=>uE e k=true->P e) e c f h else ff ((dif_neg c).symm.trans h)
noncomputable def CO(e:af)(k:af->Operator->af->dK->Bool):Bool:=if h:e.ctorIdx=2 then tE (motive_1:=λ_=>Bool) e h k else false
@[elab_as_elim] theorem Td{P:af->Prop}{k:af->Operator->af->dK->Bool}(h:CO e k=true)(f:∀a b c d,k a b c d=true->P (.BinOp a b c d)):P e:=if c:e.ctorIdx=2 then tE (motive_1:=λe=>CO e k=true->P e) e c f h else ff ((dif_neg c).symm.trans h)
noncomputable def rj(e:af)(k:UnaryOp->af->dK->Bool):Bool:=if h:e.ctorIdx=3 then qP (motive_1:=λ_=>Bool) e h k else false
@[elab_as_elim] theorem BL{P:af->Prop}{k:UnaryOp->af->dK->Bool}(h:rj e k=true)(f:∀a b c,k a b c=true->P (.UnaryOp a b c)):P e:=if c:e.ctorIdx=3 then qP (motive_1:=λe=>rj e k=true->P e) e c f h else ff ((dif_neg c).symm.trans h)
noncomputable def zc(e:af)(k:Arguments->af->jD->dK->Bool):Bool:=if h:e.ctorIdx=4 then rY (motive_1:=λ_=>Bool) e h k else false
@[elab_as_elim] theorem OZ{P:af->Prop}{k:Arguments->af->jD->dK->Bool}(h:zc e k=true)(f:∀a b c d,k a b c d=true->P (.Lambda a b c d)):P e:=if c:e.ctorIdx=4 then rY (motive_1:=λe=>zc e k=true->P e) e c f h else ff ((dif_neg c).symm.trans h)
noncomputable def CN(e:af)(k:af->af->af->dK->Bool):Bool:=if h:e.ctorIdx=5 then tD (motive_1:=λ_=>Bool) e h k else false
@[elab_as_elim] theorem Tc{P:af->Prop}{k:af->af->af->dK->Bool}(h:CN e k=true)(f:∀a b c d,k a b c d=true->P (.IfExp a b c d)):P e:=if c:e.ctorIdx=5 then tD (motive_1:=λe=>CN e k=true->P e) e c f h else ff ((dif_neg c).symm.trans h)
noncomputable def Jh(e:af)(k:List (Option af)->List af->dK->Bool):Bool:=if h:e.ctorIdx=6 then uw (motive_1:=λ_=>Bool) e h k else false
@[elab_as_elim] theorem Wz{P:af->Prop}{k:List (Option af)->List af->dK->Bool}(h:Jh e k=true)(f:∀a b c,k a b c=true->P (.Dict a b c)):P e:=if c:e.ctorIdx=6 then uw (motive_1:=λe=>Jh e k=true->P e) e c f h else ff ((dif_neg c).symm.trans h)
noncomputable def RK(e:af)(k:List af->Nat->dK->Bool):Bool:=if h:e.ctorIdx=7 then xi (motive_1:=λ_=>Bool) e h k else false
@[elab_as_elim] theorem ZT{P:af->Prop}{k:List af->Nat->dK->Bool}(h:RK e k=true)(f:∀a b c,k a b c=true->P (.Set a b c)):P e:=if c:e.ctorIdx=7 then xi (motive_1:=λe=>RK e k=true->P e) e c f h else ff ((dif_neg c).symm.trans h)
noncomputable def pD(e:af)(k:af->List cR->jD->dK->Bool):Bool:=if h:e.ctorIdx=8 then qd (motive_1:=λ_=>Bool) e h k else false
@[elab_as_elim] theorem yA{P:af->Prop}{k:af->List cR->jD->dK->Bool}(h:pD e k=true)(f:∀a b c d,k a b c d=true->P (.ListComp a b c d)):P e:=if c:e.ctorIdx=8 then qd (motive_1:=λe=>pD e k=true->P e) e c f h else ff ((dif_neg c).symm.trans h)
noncomputable def sq(e:af)(k:af->af->List cR->jD->dK->Bool):Bool:=if h:e.ctorIdx=10 then qf (motive_1:=λ_=>Bool) e h k else false
@[elab_as_elim] theorem HN{P:af->Prop}{k:af->af->List cR->jD->dK->Bool}(h:sq e k=true)(f:∀a b c d e,k a b c d e=true->P (.DictComp a b c d e)):P e:=if c:e.ctorIdx=10 then qf (motive_1:=λe=>sq e k=true->P e) e c f h else ff ((dif_neg c).symm.trans h)
noncomputable def rk(e:af)(k:af->List CmpOp->List af->dK->Bool):Bool:=if h:e.ctorIdx=15 then qQ (motive_1:=λ_=>Bool) e h k else false
@[elab_as_elim] theorem BM{P:af->Prop}{k:af->List CmpOp->List af->dK->Bool}(h:rk e k=true)(f:∀a b c d,k a b c d=true->P (.Compare a b c d)):P e:=if c:e.ctorIdx=15 then qQ (motive_1:=λe=>rk e k=true->P e) e c f h else ff ((dif_neg c).symm.trans h)
noncomputable def rl(e:af)(k:af->List af->List Keyword->dK->Bool):Bool:=if h:e.ctorIdx=16 then ux (motive_1:=λ_=>Bool) e h k else false
@[elab_as_elim] theorem yC{P:af->Prop}{k:af->List af->List Keyword->dK->Bool}(h:rl e k=true)(f:∀a b c d,k a b c d=true->P (.Call a b c d)):P e:=if c:e.ctorIdx=16 then ux (motive_1:=λe=>rl e k=true->P e) e c f h else ff ((dif_neg c).symm.trans h)
noncomputable def pE(e:af)(k:Const->Nat->dK->Bool):Bool:=if h:e.ctorIdx=19 then qg (motive_1:=λ_=>Bool) e h k else false
@[elab_as_elim] theorem yB{P:af->Prop}{k:Const->Nat->dK->Bool}(h:pE e k=true)(f:∀a b c,k a b c=true->P (.Constant a b c)):P e:=if c:e.ctorIdx=19 then qg (motive_1:=λe=>pE e k=true->P e) e c f h else ff ((dif_neg c).symm.trans h)
noncomputable def gh(e:af)(k:af->bA->dK->Bool):Bool:=if h:e.ctorIdx=20 then pd (motive_1:=λ_=>Bool) e h k else false
@[elab_as_elim] theorem jU{P:af->Prop}{k:af->bA->dK->Bool}(h:gh e k=true)(f:∀a b c,k a b c=true->P (.Attribute a b c)):P e:=if c:e.ctorIdx=20 then pd (motive_1:=λe=>gh e k=true->P e) e c f h else ff ((dif_neg c).symm.trans h)
noncomputable def gT(e:af)(k:af->af->dK->Bool):Bool:=if h:e.ctorIdx=21 then pb (motive_1:=λ_=>Bool) e h k else false
@[elab_as_elim] theorem iT{P:af->Prop}{k:af->af->dK->Bool}(h:gT e k=true)(f:∀a b c,k a b c=true->P (.Subscript a b c)):P e:=if c:e.ctorIdx=21 then pb (motive_1:=λe=>gT e k=true->P e) e c f h else ff ((dif_neg c).symm.trans h)
noncomputable def j9(e:af)(k:bA->dK->Bool):Bool:=if h:e.ctorIdx=23 then mu (motive_1:=λ_=>Bool) e h k else false
@[elab_as_elim] theorem kL{P:af->Prop}{k:bA->dK->Bool}(h:j9 e k=true)(f:∀a b,k a b=true->P (.Name a b)):P e:=if c:e.ctorIdx=23 then mu (motive_1:=λe=>j9 e k=true->P e) e c f h else ff ((dif_neg c).symm.trans h)
noncomputable def AF(e:af)(k:List af->dK->Bool):Bool:=if h:e.ctorIdx=24 then uv (motive_1:=λ_=>Bool) e h k else false
@[elab_as_elim] theorem KZ{P:af->Prop}{k:List af->dK->Bool}(h:AF e k=true)(f:∀a b,k a b=true->P (.List a b)):P e:=if c:e.ctorIdx=24 then uv (motive_1:=λe=>AF e k=true->P e) e c f h else ff ((dif_neg c).symm.trans h)
noncomputable def oF(e:af)(k:List af->Nat->dK->Bool):Bool:=if h:e.ctorIdx=25 then lK (motive_1:=λ_=>Bool) e h k else false
@[elab_as_elim] theorem sN{P:af->Prop}{k:List af->Nat->dK->Bool}(h:oF e k=true)(f:∀a b c,k a b c=true->P (.Tuple a b c)):P e:=if c:e.ctorIdx=25 then lK (motive_1:=λe=>oF e k=true->P e) e c f h else ff ((dif_neg c).symm.trans h)
noncomputable def zb(e:af)(k:Option af->Option af->Option af->dK->Bool):Bool:=if h:e.ctorIdx=26 then tC (motive_1:=λ_=>Bool) e h k else false
@[elab_as_elim] theorem KY{P:af->Prop}{k:Option af->Option af->Option af->dK->Bool}(h:zb e k=true)(f:∀a b c d,k a b c d=true->P (.Slice a b c d)):P e:=if c:e.ctorIdx=26 then tC (motive_1:=λe=>zb e k=true->P e) e c f h else ff ((dif_neg c).symm.trans h)
noncomputable def nj(e:bV)(k:bA->Arguments->List bV->List af->Option af->List TypeParam->jD->Option jD->bA->dK->Bool):Bool:=if h:e.ctorIdx=0 then tB (motive_2:=λ_=>Bool) e h k else false
@[elab_as_elim] theorem zG{P:bV->Prop}{e:bV}{k:bA->Arguments->List bV->List af->Option af->List TypeParam->jD->Option jD->bA->dK->Bool}(h:nj e k=true)(f:∀a b c d e f g h i j,k a b c d e f g h i j=true->P (.FunctionDef a b c d e f g h i j)):P e:=if c:e.ctorIdx=0 then tB (motive_2:=λe=>nj e k=true->P e) e c f h else ff ((dif_neg c).symm.trans h)
noncomputable def y_(e:bV)(k:Option af->dK->Bool):Bool:=if h:e.ctorIdx=3 then Cr (motive_2:=λ_=>Bool) e h k else false
@[elab_as_elim] theorem OL{P:bV->Prop}{e:bV}{k:Option af->dK->Bool}(h:y_ e k=true)(f:∀a b,k a b=true->P (.Return a b)):P e:=if c:e.ctorIdx=3 then Cr (motive_2:=λe=>y_ e k=true->P e) e c f h else ff ((dif_neg c).symm.trans h)
noncomputable def lY(e:bV)(k:List af->af->dK->Bool):Bool:=if h:e.ctorIdx=5 then Cs (motive_2:=λ_=>Bool) e h k else false
@[elab_as_elim] theorem l_{P:bV->Prop}{e:bV}{k:List af->af->dK->Bool}(h:lY e k=true)(f:∀a b c,k a b c=true->P (.Assign a b c)):P e:=if c:e.ctorIdx=5 then Cs (motive_2:=λe=>lY e k=true->P e) e c f h else ff ((dif_neg c).symm.trans h)
noncomputable def Nb(e:bV)(k:af->af->List bV->List bV->dK->Bool):Bool:=if h:e.ctorIdx=9 then Mr (motive_2:=λ_=>Bool) e h k else false
@[elab_as_elim] theorem Wu{P:bV->Prop}{e:bV}{k:af->af->List bV->List bV->dK->Bool}(h:Nb e k=true)(f:∀a b c d e,k a b c d e=true->P (.For a b c d e)):P e:=if c:e.ctorIdx=9 then Mr (motive_2:=λe=>Nb e k=true->P e) e c f h else ff ((dif_neg c).symm.trans h)
noncomputable def CM(e:bV)(k:af->List bV->List bV->dK->Bool):Bool:=if h:e.ctorIdx=11 then EL (motive_2:=λ_=>Bool) e h k else false
@[elab_as_elim] theorem S_{P:bV->Prop}{e:bV}{k:af->List bV->List bV->dK->Bool}(h:CM e k=true)(f:∀a b c d,k a b c d=true->P (.While a b c d)):P e:=if c:e.ctorIdx=11 then EL (motive_2:=λe=>CM e k=true->P e) e c f h else ff ((dif_neg c).symm.trans h)
noncomputable def Zh(e:bV)(k:af->List bV->List bV->dK->Bool):Bool:=if h:e.ctorIdx=12 then Qb (motive_2:=λ_=>Bool) e h k else false
@[elab_as_elim] theorem jIf{P:bV->Prop}{e:bV}{k:af->List bV->List bV->dK->Bool}(h:Zh e k=true)(f:∀a b c d,k a b c d=true->P (.If a b c d)):P e:=if c:e.ctorIdx=12 then Qb (motive_2:=λe=>Zh e k=true->P e) e c f h else ff ((dif_neg c).symm.trans h)
noncomputable def wExpr(e:bV)(k:af->dK->Bool):Bool:=if h:e.ctorIdx=24 then Iv (motive_2:=λ_=>Bool) e h k else false
@[elab_as_elim] theorem QG{P:bV->Prop}{e:bV}{k:af->dK->Bool}(h:wExpr e k=true)(f:∀a b,k a b=true->P (.Expr a b)):P e:=if c:e.ctorIdx=24 then Iv (motive_2:=λe=>wExpr e k=true->P e) e c f h else ff ((dif_neg c).symm.trans h)
noncomputable def sj(e:bV)(k:dK->Bool):Bool:=if h:e.ctorIdx=27 then x8 (motive_2:=λ_=>Bool) e h k else false
@[elab_as_elim] theorem HE{P:bV->Prop}{e:bV}{k:dK->Bool}(h:sj e k=true)(f:∀a,k a=true->P (.Continue a)):P e:=if c:e.ctorIdx=27 then x8 (motive_2:=λe=>sj e k=true->P e) e c f h else ff ((dif_neg c).symm.trans h)
noncomputable def gq(e:af):Bool:= !c5 e.ctorIdx 26
noncomputable def gV(e:af):Bool:= !c5 e.ctorIdx 7
noncomputable def notAttr(e:af):Bool:= !c5 e.ctorIdx 20
def mJ(e:af):Bool:= !rl e λf a k _=>j9 f (λx _=>x==("super":bA))&&a.isEmpty&&k.isEmpty
def zC(ns:List bA)(i:Nat)(e:af):Bool:=j9 e λx _=>ns[i]?==some x
noncomputable def UG{α:Type}(l:List α)(k:α->List α->Bool):Bool:=match l with|a::r=>k a r|_=>false
@[elab_as_elim] theorem BO{α:Type}{l:List α}{k:α->List α->Bool}{P:List α->Prop}(h:UG l k=true)(f:∀a r,k a r=true->P (a::r)):P l:=match l,h with|a::r,h=>f a r h
def ly(ns:List bA):List Nat->List af->Bool
 |[],es=>es.isEmpty
 |i::is,es=>UG es λe es=>zC ns i e&&ly ns is es
def cY(ns:List bA)(e:af)(is:List Nat):Bool:=match is with
 |[i]=>zC ns i e
 |is=>decide (2<=is.length)&&oF e λes _ _=>ly ns is es
theorem g_{n:Nat}:∀{is:List Nat},cY ns (.Tuple es n p) is=true->2<=is.length/\ly ns is es=true
 |[],h=>ff h
 |[_],h=>ff h
 |_::_::_,h=>⟨jg _ _,h⟩
theorem sC:∀{is:List Nat}{es:List af},ly ns is es=true->es.length=is.length
 |[],es,h=>l0 h rfl
 |i::is,es,h=>BO h λe es h=>an h λ_ h2=>congrArg (·+1) (sC h2)
@[elab_as_elim] theorem ve{P:af->List Nat->Prop}(h:cY ns e is=true)(f:∀x p i,ns[i]?=some x->P (.Name x p) [i])(g:∀es n p,cY ns (.Tuple es n p) is=true->P (.Tuple es n p) is):P e is:=match is,h,g with
  |[],h,_=>ff h
  |[i],h,_=>kL h λx p h=>f x p i (eq_of_beq h)
  |_::_::_,h,g=>sN h g
noncomputable def i4(sc dC:jD)(ns iu:List bA)(m:Nat)(aX:List Nat):Bool:=
 dC.kind==.function&&decide (iu.Nodup)&&iu.length==m+aX.length&& !iu.contains (".0":bA)&&
 ((iu.take m).all λx=>dC.names.lookup x==some .local||dC.names.lookup x==some .cell)&&
 (((iu.drop m).zip aX).all λp=>ns[p.2]?==some p.1&&dC.names.lookup p.1==some .free&&(sc.names.lookup p.1==some .cell||sc.names.lookup p.1==some .free))&&
 (dC.names.all λp=>p.2 !=.free||(iu.drop m).contains p.1)&&
 (dC.names.all λp=>dC.names.lookup p.1==some p.2)&&decide ((dC.names.map (·.1)).Nodup)&&(dC.names.all λp=>p.2==.local||p.2==.cell||p.2==.free||p.2==.globalImplicit)
noncomputable def sY(ns:List bA)(ts:List bA)(aX:List Nat):List bA:=ts++aX.filterMap λi=>ns[i]?
noncomputable def nameOf(e:af):List bA:=if h:e.ctorIdx=23 then mu (motive_1:=λ_=>List bA) e h (λx _=>[x])else[]
def targetNames(e:af):List bA:=if h:e.ctorIdx=25 then lK (motive_1:=λ_=>List bA) e h (λes _ _=>es.flatMap nameOf)else nameOf e
def K'(gs:List cR):List bA:=gs.flatMap λg=>targetNames g.target
noncomputable def C3(sc:jD):Bool:=sc.kind==.function&& !sc.isGenerator&& !sc.isCoroutine
def rQ(sc:jD)(f:bw)(aX:Nat):Bool:=
 C3 sc&&decide (f.names.Nodup)&&decide (f.params+aX<=f.names.length)&&
 ((f.names.take (f.names.length-aX)).all λx=>sc.names.lookup x==some .local||sc.names.lookup x==some .cell)&&
 ((f.names.drop (f.names.length-aX)).all λx=>sc.names.lookup x==some .free)&&
 (sc.names.all λp=>p.2 !=.free||(f.names.drop (f.names.length-aX)).contains p.1)&&
 (sc.names.all λp=>sc.names.lookup p.1==some p.2)&&decide ((sc.names.map (·.1)).Nodup)&&(sc.names.all λp=>p.2==.local||p.2==.cell||p.2==.free||p.2==.globalImplicit)
noncomputable def jQ(a:Arguments)(f:bw):Bool:=
 a.posonlyargs.isEmpty&&a.vararg.isNone&&a.kwonlyargs.isEmpty&&a.kwarg.isNone&&a.args.map (·.arg)==f.names.take f.params&&a.args.length==f.params&&a.args.all (·.annotation.isNone)
noncomputable def uB(e:FV)(k:Bool->Bool):Bool:=if h:e.ctorIdx=1 then FV.bool.elim (motive_1:=λ_=>Bool) e h k else false
noncomputable def uI(e:FV)(k:Int->Bool):Bool:=if h:e.ctorIdx=2 then FV.int.elim (motive_1:=λ_=>Bool) e h k else false
noncomputable def uS(e:FV)(k:bA->Bool):Bool:=if h:e.ctorIdx=3 then FV.str.elim (motive_1:=λ_=>Bool) e h k else false
noncomputable def uT(e:FV)(k:List FV->Bool):Bool:=if h:e.ctorIdx=4 then FV.tup.elim (motive_1:=λ_=>Bool) e h k else false
noncomputable def uO(e:FV)(k:Nat->Bool):Bool:=if h:e.ctorIdx=9 then FV.obj.elim (motive_1:=λ_=>Bool) e h k else false
@[elab_as_elim] theorem uBi{P:FV->Prop}{e:FV}{k:Bool->Bool}(h:uB e k=true)(f:∀a,k a=true->P (.bool a)):P e:=if c:e.ctorIdx=1 then FV.bool.elim (motive_1:=λe=>uB e k=true->P e) e c f h else ff ((dif_neg c).symm.trans h)
@[elab_as_elim] theorem uIi{P:FV->Prop}{e:FV}{k:Int->Bool}(h:uI e k=true)(f:∀a,k a=true->P (.int a)):P e:=if c:e.ctorIdx=2 then FV.int.elim (motive_1:=λe=>uI e k=true->P e) e c f h else ff ((dif_neg c).symm.trans h)
@[elab_as_elim] theorem uSi{P:FV->Prop}{e:FV}{k:bA->Bool}(h:uS e k=true)(f:∀a,k a=true->P (.str a)):P e:=if c:e.ctorIdx=3 then FV.str.elim (motive_1:=λe=>uS e k=true->P e) e c f h else ff ((dif_neg c).symm.trans h)
@[elab_as_elim] theorem uTi{P:FV->Prop}{e:FV}{k:List FV->Bool}(h:uT e k=true)(f:∀a,k a=true->P (.tup a)):P e:=if c:e.ctorIdx=4 then FV.tup.elim (motive_1:=λe=>uT e k=true->P e) e c f h else ff ((dif_neg c).symm.trans h)
@[elab_as_elim] theorem uOi{P:FV->Prop}{e:FV}{k:Nat->Bool}(h:uO e k=true)(f:∀a,k a=true->P (.obj a)):P e:=if c:e.ctorIdx=9 then FV.obj.elim (motive_1:=λe=>uO e k=true->P e) e c f h else ff ((dif_neg c).symm.trans h)
mutual
def su:FV->FV->Bool
 |.none,e=>c5 e.ctorIdx 0
 |.bool a,e=>uB e λb=>a==b
 |.int a,e=>uI e λb=>a==b
 |.str a,e=>uS e λb=>a==b
 |.obj a,e=>uO e λb=>a==b
 |.tup xs,e=>uT e λys=>uF xs ys
 |_,_=>false
def uF:List FV->List FV->Bool
 |[],ys=>ys.isEmpty
 |x::xs,ys=>ys.any (λ_=>true)&&su x (ys.headD .none)&&uF xs ys.tail
end
@[elab_as_elim] theorem any_cons{α:Type}{l:List α}{P:List α->Prop}(h:l.any (λ_=>true)=true)(k:∀a r,P (a::r)):P l:=match l,h with|a::r,_=>k a r
mutual
theorem sr:∀a b,su a b=true->a=b
 |.none,e,h=>FV.none.elim (motive_1:=λe=>FV.none=e) e (bN h) rfl
 |.bool a,e,h=>uBi h λ_ h=>congrArg _ (eq_of_beq h)
 |.int a,e,h=>uIi h λ_ h=>congrArg _ (eq_of_beq h)
 |.str a,e,h=>uSi h λ_ h=>congrArg _ (eq_of_beq h)
 |.obj a,e,h=>uOi h λ_ h=>congrArg _ (eq_of_beq h)
 |.tup xs,e,h=>uTi h λ_ h=>congrArg _ (vp xs _ h)
 |.list _,_,h|.dict _,_,h|.set _,_,h|.inst _ _,_,h|.mB _ _,_,h|.range _ _ _,_,h|.well,_,h=>ff h
theorem vp:∀a b,uF a b=true->a=b
 |[],_,h=>l0 h rfl
 |x::xs,ys,h=>rW h λh0=>any_cons (P:=λys=>su x (ys.headD .none)=true->uF xs ys.tail=true->x::xs=ys) h0 λy r h1 h2=>congr (congrArg _ (sr x y h1)) (vp xs r h2)
end
def K6(x:bA)(d:FV):Bool:=(GT.lookup x).any λe=>su d e
structure Sc where
 s:jD
 iS:Option bA
 lv:Nat
noncomputable def Du(x:bA):Bool:=x !=("__debug__":bA)&&x !=("__classdict__":bA)
noncomputable def k0(e:af):Bool:= !c5 e.ctorIdx 16
noncomputable def qE(e:af):Bool:=c5 e.ctorIdx 8||c5 e.ctorIdx 10||c5 e.ctorIdx 9
noncomputable def notTuple(e:af):Bool:= !c5 e.ctorIdx 25
def jR(i:IE):Bool:=i.SR.any λd=>c5 d.ctorIdx 0
theorem lit_none{i:IE}(h:jR i=true):i=.lit .none:=oP h λ_ h1 h2=>IE.SQ h1 (FV.vC (P:=λd=>IE.lit d=.lit .none) (bN h2) rfl)
def A9(e:af):Bool:=zb e λa b c _=>a.isNone&&b.isNone&&c.any λe=>rj e λo e _=>o==.USub&&pE e λc _ _=>c==.int 1
noncomputable def one{α:Type}(l:List α)(k:α->Bool):Bool:=match l with|[a]=>k a|_=>false
@[elab_as_elim] theorem pY{α:Type}{l:List α}{k:α->Bool}{P:List α->Prop}(h:one l k=true)(f:∀a,k a=true->P [a]):P l:=match l,h with|[a],h=>f a h
noncomputable def two{α:Type}(l:List α)(k:α->α->Bool):Bool:=match l with|[a,b]=>k a b|_=>false
@[elab_as_elim] theorem RL{α:Type}{l:List α}{k:α->α->Bool}{P:List α->Prop}(h:two l k=true)(f:∀a b,k a b=true->P [a,b]):P l:=match l,h with|[a,b],h=>f a b h
noncomputable def Yl(n:Nat)(k:Nat->Bool):Bool:=match n with|m+1=>k m|0=>false
theorem RS{n:Nat}{k:Nat->Bool}(h:Yl n k=true)(f:∀m,n=m+1->k m=true->P):P:=match n,h,f with|m+1,h,f=>f m rfl h
@[elab_as_elim] theorem aaS{n:Nat}{P:Nat->Prop}(h:c5 n m=true)(k:P m):P n:=bN h▸k
def td(sc:Sc)(ns:List bA)(k:Nat)(aX:List Nat):Bool:=(LT[k]?).any λf=>((f.names.drop (f.names.length-aX.length)).zip aX).all λp=>ns[p.2]?==some p.1&&(sc.s.names.lookup p.1==some .cell)
abbrev y5:=Nat->Arguments->FuncBody->jD->Nat->Bool
section
variable (lo:y5)
def vG(ns:List bA)(i:Nat)(x:bA):Bool:=ns[i]?==some x&&Du x
mutual
def eB:IE->Sc->List bA->af->Bool
 |.var i,_,ns,e=>j9 e λx _=>vG ns i x
 |.lit d,_,_,e=>pE e λc _ _=>(uW c).any λd'=>su d' d
 |.bc d,sc,_,e=>j9 e λx _=>sc.s.names.lookup x==some .globalImplicit&&K6 x d&&x !=("__debug__":bA)
 |.bin op a b,sc,ns,e=>CO e λl o r _=>o==op&&eB a sc ns l&&eB b sc ns r
 |.un op a,sc,ns,e=>rj e λo x _=>o==op&&eB a sc ns x
 |.ic il,sc,ns,e=>uE e λo es _=>o==.And&&qH il sc ns es
 |.uJ il,sc,ns,e=>uE e λo es _=>o==.Or&&qH il sc ns es
 |.cmp op a b,sc,ns,e=>rk e λl os rs _=>one os (λo=>o==op)&&eB a sc ns l&&one rs λr=>eB b sc ns r&&gV r
 |.chain o1 o2 a b c,sc,ns,e=>rk e λl os rs _=>two os (λp q=>p==o1&&q==o2)&&eB a sc ns l&&two rs λr1 r2=>eB b sc ns r1&&eB c sc ns r2&&gV r2
 |.ite t a b,sc,ns,e=>CN e λx y z _=>eB t sc ns x&&eB a sc ns y&&eB b sc ns z
 |.idx a i,sc,ns,e=>gT e λv s _=>eB a sc ns v&&eB i sc ns s&&gq s
 |.xy a l h,sc,ns,e=>gT e λv s _=>eB a sc ns v&&zb s λx y z _=>z.isNone&&x.elim (jR l) (λx=>eB l sc ns x)&&y.elim (jR h) λy=>eB h sc ns y
 |.rev a,sc,ns,e=>gT e λv s _=>eB a sc ns v&&A9 s
 |.attr a k,sc,ns,e=>gh e λv x _=>eB a sc ns v&&gC[k]?==some x&&decide (k<15)&&mJ v
 |.tup il,sc,ns,e=>oF e λes _ _=>qH il sc ns es&&decide (es.length<1000)
 |.lst _ il,sc,ns,e=>AF e λes _=>qH il sc ns es&&decide (es.length<1000)
 |.GV il,sc,ns,e=>RK e λes n _=>c5 n 0&&one es λx=>qH il sc ns [x]
 |.B2,_,_,e=>Jh e λa b _=>a.isEmpty&&b.isEmpty
 |.vK a b,sc,ns,e=>AF e λes _=>two es λx y=>eB a sc ns x&&eB b sc ns y
 |.call f il,sc,ns,e=>rl e λg args kw _=>kw.isEmpty&&eB f sc ns g&&notAttr g&&qH il sc ns args
 |.bj b _ il,sc,ns,e=>rl e λg args kw _=>kw.isEmpty&&qH il sc ns args&&j9 g λx _=>sc.s.names.lookup x==some .globalImplicit&&x==b.word&&(GT.lookup x).isNone
 |.ef m o il,sc,ns,e=>rl e λg args kw pos=>kw.isEmpty&&qH il sc ns args&&gh g λv x p=>eB o sc ns v&&x==m.word&&mJ v&&p.endLine==pos.line&&decide (args.length<29)&&
   (match m with|.strip=>k0 v&&args.isEmpty|.count=>k0 v&&one args λ_=>true|.user _=>true)
 |.comp _ m aX it f7 il g,sc,ns,e=>pD e λelt gs dC _=>UG gs λc gs=>Yl sc.lv λlv=>(λiu=>c.is_async==0&&eB it sc ns c.iter&&gV c.iter&&i4 sc.s dC ns iu m aX&&cY iu c.target f7&&qH il ⟨dC,none,lv⟩ iu c.ifs&&(TR g ⟨dC,none,lv⟩ iu gs elt&&gs.all (·.is_async==0))) (sY ns (K' (c::gs)) aX)
 |.sX m aX it f7,sc,ns,e=>pD e λelt gs dC _=>AF elt λes _=>one gs λc=>Yl sc.lv λlv=>(λiu=>es.isEmpty&&(c.is_async==0&&c.ifs.isEmpty)&&eB it sc ns c.iter&&gV c.iter&&i4 sc.s dC ns iu m aX&&cY iu c.target [f7]) (sY ns (targetNames c.target) aX)
 |.rR _ m aX it f7 v,sc,ns,e=>sq e λke w gs dC _=>j9 ke λx _=>one gs λc=>Yl sc.lv λlv=>(λiu=>(c.is_async==0&&c.ifs.isEmpty)&&eB it sc ns c.iter&&gV c.iter&&i4 sc.s dC ns iu m aX&&cY iu c.target [f7]&&vG iu f7 x&&eB v ⟨dC,none,lv⟩ iu w) (sY ns (targetNames c.target) aX)
 |.lam k aX,sc,ns,e=>zc e λargs body dC _=>sc.iS==some ("<lambda>":bA)&&lo k args (.expr body) dC aX.length&&td sc ns k aX
def qH:IL->Sc->List bA->List af->Bool
 |.nil,_,_,es=>es.isEmpty
 |.cons a il,sc,ns,es=>UG es λe es=>eB a sc ns e&&qH il sc ns es
def TR:IG->Sc->List bA->List cR->af->Bool
 |.emit a,sc,ns,gs,elt=>gs.isEmpty&&eB a sc ns elt
 |.gen it f7 il g,sc,ns,gs,elt=>UG gs λc gs=>c.is_async==0&&eB it sc ns c.iter&&gV c.iter&&cY ns c.target f7&&qH il sc ns c.ifs&&TR g sc ns gs elt
end
def z9(p:Path)(sc:Sc)(ns:List bA)(e:af):Bool:=match p with
 |.v i=>j9 e λx _=>vG ns i x
 |.at i a=>gT e λo j _=>j9 o λx _=>vG ns i x&&eB lo a sc ns j&&gq j
 |.fld i k=>gh e λo y _=>j9 o λx _=>vG ns i x&&gC[k]?==some y&&decide (k<15)
def LP(m:bA)(s:bV)(k:af->af->Bool):Bool:=wExpr s λe _=>rl e λf args kw pos=>kw.isEmpty&&one args λe=>gh f λo x p=>x==m&&p.endLine==pos.line&&k o e
@[elab_as_elim] theorem Xx{m:bA}{s:bV}{k:af->af->Bool}{P:bV->Prop}(h:LP m s k=true)(f:∀o e p pos pos',(p.endLine==pos.line)=true->k o e=true->P (.Expr (.Call (.Attribute o m p) [e] [] pos) pos')):P s:=
by
 exact QG h λe q h=>yC h λg as kw q2 h=>an h λh0 h=>l0 h0<|pY h λe h=>jU h λo x p h=>rW h λh1 h2 h3=>CG h1 (f o e p q2 q h2 h3)
mutual
def TQ:IS->Sc->List bA->bV->Bool
 |.assign i a,sc,ns,s=>lY s λts e _=>one ts λt=>zC ns i t&&eB lo a sc ns e
 |.unpack is a,sc,ns,s=>lY s λts e _=>one ts λt=>oF t λes k p=>cY ns (.Tuple es k p) is&&eB lo a sc ns e&&notTuple e
 |.jk is il,sc,ns,s=>lY s λts e _=>one ts λt=>oF t λes k p=>oF e λvs _ _=>cY ns (.Tuple es k p) is&&decide is.Nodup&&qH lo il sc ns vs&&vs.length==es.length&&decide (vs.length<1000)&&(vs.all (constantsAlone 8)==false||vs.all (foldedForSure 8))
 |.fW q b a,sc,ns,s=>lY s λts e _=>one ts λt=>gT t λo i _=> !c5 q.ctorIdx 1&&z9 lo q sc ns o&&eB lo b sc ns i&&eB lo a sc ns e
 |.setAttr i k a,sc,ns,s=>lY s λts e _=>one ts λt=>gh t λo y _=>j9 o λx _=>vG ns i x&&gC[k]?==some y&&decide (k<15)&&eB lo a sc ns e
 |.append q a,sc,ns,s=>LP "append" s λo e=>z9 lo q sc ns o&&eB lo a sc ns e
 |.extend q a,sc,ns,s=>LP "extend" s λo e=>z9 lo q sc ns o&&eB lo a sc ns e
 |.add q a,sc,ns,s=>LP "add" s λo e=>z9 lo q sc ns o&&eB lo a sc ns e
 |.pop is single i,sc,ns,s=>lY s λts e _=>one ts λt=>rl e λf args kw p3=>gh f λo m p2=>j9 o λx _=>args.isEmpty&&kw.isEmpty&&m==("pop":bA)&&cY ns t is&&single==(is.length==1)&&vG ns i x&&p2.endLine==p3.line
 |.run a,sc,ns,s=>wExpr s λe _=>eB lo a sc ns e&& !qE e
 |.ite t x y,sc,ns,s=>Zh s λe b o _=>eB lo t sc ns e&&wN x sc ns b&&wN y sc ns o
 |.while t x,sc,ns,s=>CM s λe b o _=>o.isEmpty&&eB lo t sc ns e&&wN x sc ns b
 |.for is a x,sc,ns,s=>Nb s λt i b o _=>o.isEmpty&&cY ns t is&&eB lo a sc ns i&&gV i&&wN x sc ns b
 |.kS i j a x,sc,ns,s=>Nb s λt c b o _=>oF t λes k p=>rl c λf args kw _=>j9 f λf _=>one args λe=>(o.isEmpty&&kw.isEmpty)&&f==aa "enumerate"&&cY ns (.Tuple es k p) [i,j]&&sc.s.names.lookup f==some .globalImplicit&&eB lo a sc ns e&&wN x sc ns b
 |.ret a,sc,ns,s=>y_ s λe _=>e.elim (jR a) λe=>eB lo a sc ns e
 |.cont,_,_,s=>sj s λ_=>true
 |.fail,_,_,_=>true
 |.fz _,_,_,_=>false
 |.lock _,_,_,_=>false
 |.defn i k aX,sc,ns,s=>nj s λname args body Xu ret tps dC sc3 QC _=>(Xu.isEmpty&&ret.isNone&&tps.isEmpty&&sc3.isNone)&&QC==name&&sc.iS==some name&&lo k args (.stmts body) dC aX.length&&td sc ns k aX&&ns[i]?==some name
def wN:IB->Sc->List bA->List bV->Bool
 |.nil,_,_,ss=>ss.isEmpty
 |.cons s r,sc,ns,ss=>s.fz?.elim (s.Kw.elim (UG ss λst ss=>TQ s sc ns st&&wN r sc ns ss) λaX=>
   (aX.all λi=>(ns[i]?).any λx=>sc.s.names.lookup x==some .cell)&&wN r sc ns ss) λ_=>wN r sc ns ss
end
def uX(sc:Sc)(ns:List bA)(fb:FuncBody)(b:Body):Bool:=match b with
 |.stmts ib=>(match fb with|.stmts ss=>wN lo ib sc ns ss|.expr _=>false)
 |.expr ie=>(match fb with|.expr e=>eB lo ie sc ns e|.stmts _=>false)
end
noncomputable def Wr:y5:=λ_ _ _ _ _=>false
def Bw:y5:=λk args fb dC n=>(LT[k]?).any λf=>f.dflt.isEmpty&&jQ args f&&args.defaults.isEmpty&&args.kw_defaults.isEmpty&&rQ dC f n&&uX Wr ⟨dC,none,4⟩ f.names fb f.body
def KO:Option bA->y5
 |some _=>Bw
 |none=>Wr
structure CF(f:bw)(aX:Nat)(iS:Option bA)(fd:iU):Prop where
 params:jQ fd.params f=true
 scope:rQ fd.scope f aX=true
 body:uX (KO iS) ⟨fd.scope,iS,4⟩ f.names fd.body f.body=true
variable{sc:Sc}
structure Cx where
 w:fP
 B:eu
 mg:bA->Option aB
 mb:bA->Option aB
 tabs:List (aO×aO)
 K:Frag
 tq:aO->bA
abbrev pw:Program:=Ui
abbrev Cx.M(C:Cx):Model:=model pw C.w
noncomputable def gj(m:Nat):Array Nat:=((ae 8).filter m.testBit).toArray
def tabOf(m:Nat)(led:Bool):SetTable:=⟨7,gj m,#[],0,led,0,true⟩
noncomputable def eX(w:fP):Bool:= !(w.params.followText "set-order")
def mc(w:fP)(h:eu)(a:aO):Prop:=∃o es ep m,h.get? a=some o/\o.data=.set es ep (tabOf m (eX w))/\m<256/\es.size<=4
theorem mc.at_{w:fP}(e:∀o,h.get? a=some o->h'.get? a=some o)(x:mc w h a):mc w h' a:=let⟨o,es,ep,m,q,r⟩:=x;⟨o,es,ep,m,e _ q,r⟩
set_option genInjectivity true in
inductive Role where
 |loc|cell (x:bA)|own (i k:Nat)|ki
 deriving DecidableEq
structure Gh where
 F:aO->Option jX
 aw:Option aO
structure Ext(G G':Gh):Prop where
 f:∀a o,G.F a=some o->G'.F a=some o
 a:∀a,G.aw=some a->G'.aw=some a
theorem Ext.refl(G:Gh):Ext G G:=⟨λ_ _ h=>h,λ_ h=>h⟩
theorem Ext.trans{G G' EX:Gh}(x:Ext G G')(y:Ext G' EX):Ext G EX:=⟨λa o h=>y.f a o (x.f a o h),λa h=>y.a a (x.a a h)⟩
def y8(G:Gh)(h:eu):Prop:=∀a o,G.F a=some o->h.get? a=some o
def mX(F:aO->Option jX)(cv:aB)(q:bA):Prop:=∃c o vs t,cv=.ref c/\F c=some o/\o.data=.fields vs/\vs[1]?=some (.str q t)
theorem mX.recIn{G:Gh}{q:bA}(x:mX G.F cv q)(b:y8 G h):h.CodeRec cv q:=
 jE x λc o vs t x=>fA x λe f d r=>⟨c,o,vs,t,e,b _ _ f,d,r⟩
theorem mX.mono{F':aO->Option jX}{q:bA}(x:mX F cv q)(k:∀a o,F a=some o->F' a=some o):mX F' cv q:=
 jE x λc o vs t x=>jN x λe f r=>⟨c,o,vs,t,e,k _ _ f,r⟩
def attrName(k:Nat):bA:=gC.getD k (aa "?")
abbrev ik(C:Cx):=intKind pw C.w
structure FnAt(C:Cx)(F:aO->Option jX)(a:aO)(f:bw)(vs:List aB)(fd:iU):Prop where
 obj:∃o,F a=some o/\o.data=.func fd
 cf:∃iS,CF f vs.length iS fd/\∀nm,iS=some nm->∃c P,fd.code=.ref c/\(c,P)∈C.tabs/\fd.qualname++".<locals>."++nm=C.tq P
 glob:fd.globals=bU
 bi:fd.builtins=dz
 code:mX F fd.code fd.qualname
 TP:∀(j:Nat)(x:bA),(f.names.drop (f.names.length-vs.length))[j]?=some x->∃(c:aO)(o:jX)(v:aB),fd.closure.lookup x=some c/\F c=some o/\o.data=.cell (some v)/\vs[j]?=some v
 SA:vs=[]->fd.closure=[]
theorem FnAt.mono{C:Cx}{F':aO->Option jX}(x:FnAt C F a f vs fd)(k:∀a o,F a=some o->F' a=some o):FnAt C F' a f vs fd:=
 ⟨let⟨o,e,r⟩:=x.obj;⟨o,k _ _ e,r⟩,x.cf,x.glob,x.bi,x.code.mono k,λj y hy=>let⟨c,o,v,e1,e2,r⟩:=x.TP j y hy;⟨c,o,v,e1,k _ _ e2,r⟩,x.SA⟩
def KeysAre:List b7->List Nat->Prop
 |[],[]=>True
 |e::r,k::r'=>(∃t,e.key=.str (attrName k) t)/\k<15/\KeysAre r r'
 |_,_=>False
mutual
inductive Rep(C:Cx)(G:Gh):aB->FV->Prop
 |none:Rep C G .none .none
 |bool (b:Bool):Rep C G (.bool b) (.bool b)
 |int (i:Int) (t:Tok):Rep C G (.int i t) (.int i)
 |str (x:bA) (t:Tok):Rep C G (.str x t) (.str x)
 |tup {a:aO} {vs:List aB} {n:Nat} {xs:List FV}:G.F a=some {cls:=.type "tuple",data:=.seq vs.toArray n}->bB C G vs xs->Rep C G (.ref a) (.tup xs)
 |list {a:aO} {vs:List aB} {n:Nat} {xs:List FV}:G.F a=some {cls:=.type "list",data:=.seq vs.toArray n}->bB C G vs xs->Rep C G (.ref a) (.list xs)
 |dict {a:aO} {o:jX} {f:Int->Option aB} {vs:List aB} {es:List (Int×FV)}:G.F a=some o->(∀h:eu,h.get? a=some o->h.MapOf (ik C) a f)->(a==sysModules)=false->
   bB C G vs (es.map (·.2))->(∀k,f k=((es.map (·.1)).zip vs).lookup k)->Rep C G (.ref a) (.dict es)
 |set {a:aO} {o:jX} {xs:List Int}:G.F a=some o->(∀h:eu,h.get? a=some o->h.SetOf (ik C) a (λk=>xs.contains k) xs.length)->Rep C G (.ref a) (.set xs)
 |inst {x dx:aO} {c:Nat} {i3:List b7} {n:Nat} {fs:List (Nat×FV)}:(CT c).isSome=true->G.F x=some (instObj c dx)->G.F dx=some (dictOf i3 n)->
   bB C G (i3.map (·.val)) (fs.map (·.2))->KeysAre i3 (fs.map (·.1))->Rep C G (.ref x) (.inst c fs)
 |obj {a:aO} {o:jX}:C.B.get? a=some o->Rep C G (.ref a) (.obj a)
 |mB {a:aO} {k:Nat} {f:bw} {fd:iU} {vs:List aB} {aX:List FV}:LT[k]?=some f->f.dflt=[]->fd.defaults=.none->FnAt C G.F a f vs fd->bB C G vs aX->Rep C G (.ref a) (.mB k aX)
 |range {a:aO} {lo hi st:Int} {t u v:Tok}:G.F a=some {cls:=.type "range",dict:=none,data:=.fields #[.int lo t,.int hi u,.int st v],slots:=#[]}->Rep C G (.ref a) (.range lo hi st)
 |well {a:aO}:G.aw=some a->Rep C G (.ref a) .well
inductive bB(C:Cx)(G:Gh):List aB->List FV->Prop
 |nil:bB C G [] []
 |cons {v:aB} {d:FV} {vs:List aB} {ds:List FV}:Rep C G v d->bB C G vs ds->bB C G (v::vs) (d::ds)
end
section
variable {C:Cx}{G G':Gh}{es:List FV}
@[elab_as_elim] theorem bB.ind{P:List aB->List FV->Prop}(h:bB C G vs ds)(h0:P [] [])(h1:∀v d vs ds,Rep C G v d->bB C G vs ds->P vs ds->P (v::vs) (d::ds)):P vs ds:=
  bB.rec (motive_1:=λ_ _ _=>True) (motive_2:=λvs ds _=>P vs ds) trivial (λ_=>trivial) (λ_ _=>trivial) (λ_ _=>trivial) (λ_ _ _=>trivial) (λ_ _ _=>trivial) (λ_ _ _ _ _ _=>trivial) (λ_ _=>trivial) (λ_ _ _ _ _ _=>trivial) (λ_=>trivial) (λ_ _ _ _ _ _=>trivial) (λ_=>trivial) (λ_=>trivial)
   h0 (λa r _ i=>h1 _ _ _ _ a r i) h
def XN(C:Cx)(G:Gh):List aB->List FV->Prop
 |[],ds=>ds=[]
 |v::vs,ds=>∃d r,ds=d::r/\Rep C G v d/\bB C G vs r
theorem bB.inv(h:bB C G vs ds):XN C G vs ds:=h.ind rfl λ_ _ _ _ a r _=>⟨_,_,rfl,a,r⟩
@[elab_as_elim] theorem bB.rS{P:List aB->Prop}(h:bB C G vs (d::ds))(k:∀v vs,Rep C G v d->bB C G vs ds->P (v::vs)):P vs:=match vs,h.inv with
  |[],e=>nomatch e
  |v::vs,e=>cO e λ_ _ e a b=>k v vs ((aL e).1▸a) ((aL e).2▸b)
theorem bB.both(h:bB C G (v::vs) (d::ds)):Rep C G v d/\bB C G vs ds:=cO h.inv λ_ _ e a b=>⟨(aL e).1▸a,(aL e).2▸b⟩
theorem bB.length(h:bB C G vs ds):vs.length=ds.length:=h.ind rfl λ_ _ _ _ _ _ e=>congrArg (·+1) e
theorem bB.get(h:bB C G vs ds)(e:ds[i]?=some d):∃v,vs[i]?=some v/\Rep C G v d:=
 h.ind (P:=λvs ds=>∀i,ds[i]?=some d->∃v,vs[i]?=some v/\Rep C G v d) (λ_ e=>nn e) (λ_ _ _ _ a _ ih i=>match i with
  |0=>λe=>⟨_,rfl,ag e▸a⟩
  |i+1=>ih i) i e
theorem bB.append(h:bB C G vs ds)(k:bB C G us es):bB C G (vs++us) (ds++es):=h.ind k λ_ _ _ _ a _ ih=>.cons a ih
theorem bB.one(h:Rep C G v d):bB C G [v] [d]:=.cons h .nil
theorem bB.set(i:Nat)(h:bB C G vs ds)(k:Rep C G v d):bB C G (vs.set i v) (ds.set i d):=
 h.ind (P:=λvs ds=>∀i,bB C G (vs.set i v) (ds.set i d)) (λ_=>.nil) (λ_ _ _ _ a r ih i=>match i with
  |0=>.cons k r
  |i+1=>.cons a (ih i)) i
theorem bB.take(n:Nat)(h:bB C G vs ds):bB C G (vs.take n) (ds.take n):=
 h.ind (P:=λvs ds=>∀n,bB C G (vs.take n) (ds.take n)) (λn=>match n with|0=>.nil|_+1=>.nil) (λ_ _ _ _ a _ ih n=>match n with
  |0=>.nil
  |n+1=>.cons a (ih n)) n
theorem bB.dropLast(h:bB C G vs ds):bB C G vs.dropLast ds.dropLast:=by
 exact eW EU<|eW EU<|eW h.length<|h.take _
theorem bB.drop(n:Nat)(h:bB C G vs ds):bB C G (vs.drop n) (ds.drop n):=
 h.ind (P:=λvs ds=>∀n,bB C G (vs.drop n) (ds.drop n)) (λn=>match n with|0=>.nil|_+1=>.nil) (λ_ _ _ _ a r ih n=>match n with
  |0=>.cons a r
  |n+1=>ih n) n
theorem bB.reverse(h:bB C G vs ds):bB C G vs.reverse ds.reverse:=
 h.ind .nil λ_ _ _ _ a _ ih=>dW.symm▸dW.symm▸ih.append (.one a)
theorem Bp(k:Ext G G'):(∀{v:aB}{d:FV},Rep C G v d->Rep C G' v d)/\∀{vs:List aB}{ds:List FV},bB C G vs ds->bB C G' vs ds:=
 have f:∀{v:aB}{d:FV},Rep C G v d->Rep C G' v d:=λh=>Rep.rec (motive_1:=λv d _=>Rep C G' v d) (motive_2:=λvs ds _=>bB C G' vs ds) .none .bool .int .str (λa _ r=>.tup (k.f _ _ a) r) (λa _ r=>.list (k.f _ _ a) r) (λa b c _ e r=>.dict (k.f _ _ a) b c r e)
  (λa b=>.set (k.f _ _ a) b) (λz a b _ e r=>.inst z (k.f _ _ a) (k.f _ _ b) r e) .obj (λa b c d _ r=>.mB a b c (d.mono k.f) r) (λa=>.range (k.f _ _ a)) (λa=>.well (k.a _ a)) .nil (λ_ _ a r=>.cons a r) h
 ⟨f,λh=>h.ind .nil λ_ _ _ _ a _ ih=>.cons (f a) ih⟩
theorem Rep.mono(k:Ext G G')(h:Rep C G v d):Rep C G' v d:=(Bp k).1 h
theorem bB.mono(k:Ext G G')(h:bB C G vs ds):bB C G' vs ds:=(Bp k).2 h
def XO(C:Cx)(G:Gh)(v:aB):FV->Prop
 |.none=>v=.none
 |.bool b=>v=.bool b
 |.int i=>∃t,v=.int i t
 |.str x=>∃t,v=.str x t
 |.tup xs=>∃a vs n,v=.ref a/\G.F a=some {cls:=.type "tuple",data:=.seq vs.toArray n}/\bB C G vs xs
 |.list xs=>∃a vs n,v=.ref a/\G.F a=some {cls:=.type "list",data:=.seq vs.toArray n}/\bB C G vs xs
 |.dict es=>∃a f vs,v=.ref a/\(∃o,G.F a=some o/\∀h:eu,h.get? a=some o->h.MapOf (ik C) a f)/\(a==sysModules)=false/\bB C G vs (es.map (·.2))/\∀k,f k=((es.map (·.1)).zip vs).lookup k
 |.set xs=>∃a,v=.ref a/\∃o,G.F a=some o/\∀h:eu,h.get? a=some o->h.SetOf (ik C) a (λk=>xs.contains k) xs.length
 |.inst c fs=>∃x dx i3 n,v=.ref x/\(CT c).isSome=true/\G.F x=some (instObj c dx)/\G.F dx=some (dictOf i3 n)/\bB C G (i3.map (·.val)) (fs.map (·.2))/\KeysAre i3 (fs.map (·.1))
 |.obj a=>v=.ref a/\∃o,C.B.get? a=some o
 |.mB k aX=>∃a f fd vs,v=.ref a/\LT[k]?=some f/\f.dflt=[]/\fd.defaults=.none/\FnAt C G.F a f vs fd/\bB C G vs aX
 |.range lo hi st=>∃a t u w,v=.ref a/\G.F a=some {cls:=.type "range",dict:=none,data:=.fields #[.int lo t,.int hi u,.int st w],slots:=#[]}
 |.well=>∃a,v=.ref a/\G.aw=some a
theorem Rep.inv(h:Rep C G v d):XO C G v d:=
 Rep.casesOn (motive_1:=λv d _=>XO C G v d) h rfl (λ_=>rfl) (λ_ t=>⟨t,rfl⟩) (λ_ t=>⟨t,rfl⟩) (λa r=>⟨_,_,_,rfl,a,r⟩) (λa r=>⟨_,_,_,rfl,a,r⟩) (λa b c r e=>⟨_,_,_,rfl,⟨_,a,b⟩,c,r,e⟩) (λa b=>⟨_,rfl,_,a,b⟩)
  (λz a b r e=>⟨_,_,_,_,rfl,z,a,b,r,e⟩) (λa=>⟨rfl,_,a⟩) (λa b c d r=>⟨_,_,_,_,rfl,a,b,c,d,r⟩) (λa=>⟨_,_,_,_,rfl,a⟩) (λa=>⟨_,rfl,a⟩)
end
def eQ(C:Cx)(G:Gh)(a:aO):Prop:=(∀q∈C.tabs,q.2≠a)/\G.aw≠some a
def dI(C:Cx)(G:Gh)(O:aO->Option Role)(h:eu)(r:Option Role)(v:aB)(o:OB):Prop:=
 ∃a,v=.ref a/\O a=r/\eQ C G a/\G.F a=none/\match o with
  |.list xs=>∃vs n,h.get? a=some {cls:=.type "list",data:=.seq vs n}/\bB C G vs.toList xs
  |.dict es=>(a==sysModules)=false/\∃f vs,h.MapOf (ik C) a f/\bB C G vs (es.map (·.2))/\(∀k,f k=((es.map (·.1)).zip vs).lookup k)/\h.DictLe a es.length/\(es.map (·.1)).Nodup
  |.set xs=>h.SetOf (ik C) a (λk=>xs.contains k) xs.length/\xs.Nodup/\mc C.w h a
def f6(C:Cx)(G:Gh)(O:aO->Option Role)(h:eu)(r:Option Role)(v:aB):OF->Prop
 |.fv d=>Rep C G v d
 |.ob o=>dI C G O h r v o
def gw(C:Cx)(G:Gh)(O:aO->Option Role)(h:eu)(ρ:Nat->Option Role):Nat->List aB->List (List FV)->Prop
 |_,[],[]=>True
 |k,v::vs,xs::r=>dI C G O h (ρ k) v (.list xs)/\gw C G O h ρ (k+1) vs r
 |_,_,_=>False
def gb(C:Cx)(G:Gh)(O:aO->Option Role)(h:eu)(ρ:Nat->Option Role):List b7->List (Nat×OF)->Prop
 |[],[]=>True
 |e::r,(k,x)::r'=>(∃t,e.key=.str (attrName k) t)/\k<15/\f6 C G O h (ρ (k+2)) e.val x/\gb C G O h ρ r r'
 |_,_=>False
@[elab_as_elim] theorem gw.ind{C:Cx}{G:Gh}{O:aO->Option Role}{ρ:Nat->Option Role}{P:Nat->List aB->List (List FV)->Prop}(y:gw C G O h ρ k vs iG)(h0:∀k,P k [] [])
   (h1:∀k v vs xs r,dI C G O h (ρ k) v (.list xs)->gw C G O h ρ (k+1) vs r->P (k+1) vs r->P k (v::vs) (xs::r)):P k vs iG:=
  l2 (P:=λvs iG=>∀k,gw C G O h ρ k vs iG->P k vs iG) vs iG (λk _=>h0 k) (λv vs xs r ih k y=>h1 k v vs xs r y.1 y.2 (ih (k+1) y.2)) (λ_ _ _ y=>dV y) (λ_ _ _ y=>dV y) k y
@[elab_as_elim] theorem gb.ind{C:Cx}{G:Gh}{O:aO->Option Role}{ρ:Nat->Option Role}{P:List b7->List (Nat×OF)->Prop}{es:List b7}(y:gb C G O h ρ es fs)(h0:P [] [])
   (h1:∀e es p fs,(∃t,e.key=.str (attrName p.1) t)->p.1<15->f6 C G O h (ρ (p.1+2)) e.val p.2->gb C G O h ρ es fs->P es fs->P (e::es) (p::fs)):P es fs:=
  l2 (P:=λes fs=>gb C G O h ρ es fs->P es fs) es fs (λ_=>h0) (λe es p fs ih y=>h1 e es p fs y.1 y.2.1 y.2.2.1 y.2.2.2 (ih y.2.2.2)) (λ_ _ y=>dV y) (λ_ _ y=>dV y) y
noncomputable def n3:Nat:=1073741824
def dM(C:Cx)(G:Gh)(O:aO->Option Role)(h:eu)(ρ:Nat->Option Role)(v:aB):OT->Prop
 |.ob o=>dI C G O h (ρ 0) v o
 |.gu iG=>∃a vs n,v=.ref a/\O a=ρ 0/\eQ C G a/\G.F a=none/\h.get? a=some {cls:=.type "list",data:=.seq vs n}/\gw C G O h ρ 1 vs.toList iG
 |.inst c fs=>(CT c).isSome=true/\∃a d i3 n,v=.ref a/\O a=ρ n3/\eQ C G a/\G.F a=none/\h.get? a=some (instObj c d)/\O d=ρ 1/\eQ C G d/\G.F d=none/\d≠a/\h.get? d=some (dictOf i3 n)/\gb C G O h ρ i3 fs/\(fs.map (·.1)).Nodup
def cV(C:Cx)(G:Gh)(O:aO->Option Role)(h:eu)(i:Nat):Slot->Option aB->Prop
 |.unset,ov=>ov=none
 |.val d,ov=>∃v,ov=some v/\Rep C G v d
 |.ro d,ov=>∃v,ov=some v/\Rep C G v d
 |.own t,ov=>∃v,ov=some v/\dM C G O h (λk=>some (.own i k)) v t
 |.bor t,ov=>∃v,ov=some v/\dM C G O h (λ_=>some .ki) v t
def gI(C:Cx)(G:Gh)(h:eu):Option aO->WL->Prop
 |some a,some ds=>G.F a=none/\∃vs n,h.get? a=some {cls:=.type "list",data:=.seq vs n}/\bB C G vs.toList ds
 |none,none=>True
 |_,_=>False
structure bz(C:Cx)(G:Gh)(wl:WL)(h:eu):Prop where
 sub:y8 G h
 base:∀a o,C.B.get? a=some o->G.F a=some o
 tabs:∀q∈C.tabs,G.F q.2=none/\G.aw≠some q.2/\∃ps,h.get? q.2=some (tabObj ps)/\TriplesOk ps.toList/\∀pos cv,codeAmong pos ps.toList=some cv->mX G.F cv (C.tq q.2)
 well:gI C G h G.aw wl
structure cL(C:Cx)(G:Gh)(O:aO->Option Role)(sc:Sc)(ns:List bA)(env:ra)(fr:List Slot)(h:eu):Prop where
 fn:env.scope.kind=.function
 glob:env.globals=bU
 bi:env.builtins=dz
 nodup:ns.Nodup
 len:fr.length=ns.length
 iK:∀a r,O a=some r->G.F a=none/\eQ C G a/\∃o,h.get? a=some o
 gl:∀x,sc.s.names.lookup x=some .globalImplicit->env.kindOf x=some .globalImplicit
 cl:∀x,(sc.s.names.lookup x==some .cell||sc.s.names.lookup x==some .free)=true->env.kindOf x=some .cell\/env.kindOf x=some .free
 lN:O env.locals=some .loc
 loc:∃m,h.Ns env.locals m/\∀i x s,ns[i]?=some x->fr[i]?=some s->env.kindOf x=some .local->cV C G O h i s (m x)
 p9:∀i x s,ns[i]?=some x->fr[i]?=some s->env.kindOf x≠some .local->(env.kindOf x=some .cell\/env.kindOf x=some .free)/\
  ∃c ov,env.cells.lookup x=some c/\h.IsCell c ov/\cV C G O h i s ov/\O c=(if s.writable then some (.cell x)else none)/\eQ C G c/\(s.writable=true->env.kindOf x=some .cell)
 iS:∀nm,sc.iS=some nm->∃c P,env.code=.ref c/\(c,P)∈C.tabs/\env.qual++nm=C.tq P
 code:env.code=.none\/∃q,mX G.F env.code q
 ro:sc.iS.isSome=true->∀(i:Nat)(x:bA)(d:FV),ns[i]?=some x->fr[i]?=some (.ro d)->∃c o,env.cells.lookup x=some c/\G.F c=some o
def Dflts(B:eu)(fd:iU)(vs:List aB):Prop:=
 (fd.defaults=.none/\vs=[])\/∃T o n,fd.defaults=.ref T/\B.get? T=some o/\o.data=.seq vs.toArray n
structure Base(C:Cx):Prop where
 QF:C.K.In C.B
 wM:∀c,(CT c).isSome=true->findIn C.K (.ref c) "__getattribute__"=some (some (.builtin "object.__getattribute__"))/\findIn C.K (.ref c) "__getattr__"=some none/\hasDictIn C.K c=true
 LM:∀c,(CT c).isSome=true->findIn C.K (.ref c) "__setattr__"=some (some (.builtin "object.__setattr__"))/\plainOver C.K c=true
 Gd:∀c k,(CT c).isSome=true->k<15->takerIn C.K c (attrName k)=some none
 z8:∀c k,(CT c).isSome=true->k<15->∃attr,findIn C.K (.ref c) (attrName k)=some attr/\noGet C.K attr=true
 ef:∀c k f,oV c k=some f->findIn C.K (.ref c) (attrName k)=some (some (.ref f))/\typeIn C.K (.ref f)=some (.type "function")/\∃o,C.B.get? f=some o
 fn:∀a f,FT a=some f->∃fd vs,FnAt C C.B.get? a f [] fd/\(∀G,(∀b o,C.B.get? b=some o->G.F b=some o)->bB C G vs f.dflt)/\Dflts C.B fd vs/\f.dflt.length<=f.params
 cls:∀a f,CT a=some f->makesIn C.K a=true/\keepIn C.K (.ref a)=true/\(∃o,C.B.get? a=some o)/\
  ∃i fd vs,findIn C.K (.ref a) "__init__"=some (some (.ref i))/\typeIn C.K (.ref i)=some (.type "function")/\FnAt C C.B.get? i f [] fd/\(∀G,(∀b o,C.B.get? b=some o->G.F b=some o)->bB C G vs f.dflt)/\Dflts C.B fd vs/\f.dflt.length<=f.params
 g:C.B.Ns bU C.mg
 b:C.B.Ns dz C.mb
 nolimit:C.B.NoLimit
 gt:∀x d,GT.lookup x=some d->∃v,C.mg x=some v/\∀G:Gh,(∀b o,C.B.get? b=some o->G.F b=some o)->Rep C G v d
 free:∀b:BI,GT.lookup b.word=none->C.mg b.word=none
 bi:∀b:BI,C.mb b.word=some b.val
 enum:C.mg (aa "enumerate")=none/\C.mb (aa "enumerate")=some (.type "enumerate")
 hd:∀q∈C.tabs,CodeHd C.B q.1 q.2
 bm:∃bm o,C.mg "__builtins__"=some (.ref bm)/\bm≠dz/\bm≠bU/\C.B.get? bm=some o/\o.cls=.type "module"/\o.dict=some dz/\o.data=.plain
 nod:C.tabs.Pairwise (λp q=>p.2≠q.2)
 tg:∀q∈C.tabs,C.B.get? q.2=none
structure Mo(k d:Nat)(A:fF):Prop where
 handled:A.handled=none
 depth:A.depth+8*k+d+20<900
 units:A.units+24*k+3*d+60<9000
structure Step(C:Cx)(G G':Gh)(s s':aN):Prop where
 ext:Ext G G'
 keep:∀a o,eQ C G a->s.heap.get? a=some o->s'.heap.get? a=some o
 alive:∀a o,s.heap.get? a=some o->∃o',s'.heap.get? a=some o'
 lx:∀a o,G'.F a=some o->G.F a=some o\/s.heap.get? a=none
 kB:∀a,G'.aw=some a->G.aw=some a\/s.heap.get? a=none
 gens:s'.gens=s.gens
 os:s'.os=s.os
theorem Step.refl(C:Cx)(G:Gh)(s:aN):Step C G G s s:=⟨.refl G,λ_ _ _ e=>e,λ_ o e=>⟨o,e⟩,λ_ _ e=>.inl e,λ_ e=>.inl e,rfl,rfl⟩
theorem Step.tok(C:Cx)(G:Gh)(s:aN)(t:Nat):Step C G G s {s with toks:=t}:=⟨.refl G,λ_ _ _ e=>e,λ_ o e=>⟨o,e⟩,λ_ _ e=>.inl e,λ_ e=>.inl e,rfl,rfl⟩
variable{r:Option Role}{C:Cx}{G G' EX G1 G2:Gh}{O O' bq O'' O0:aO->Option Role}{ρ:Nat->Option Role}
theorem Oj{u:Unit}(h:Dt wl=some u):wl=none:=match wl,h with|none,_=>rfl
theorem lz{f:Int->Option aB}(e:∀o,h.get? a=some o->h'.get? a=some o)(x:h.MapOf (ik C) a f):h'.MapOf (ik C) a f:=j8 x λo es ep ho r=>⟨o,es,ep,e _ ho,r⟩
theorem oJ{f:Int->Bool}{n:Nat}(e:∀o,h.get? a=some o->h'.get? a=some o)(x:h.SetOf (ik C) a f n):h'.SetOf (ik C) a f n:=m8 x λo es ep t ho r=>⟨o,es,ep,t,e _ ho,r⟩
theorem lh{n:Nat}{ZE:jX}(e:∀o,h.get? a=some o->h'.get? a=some o)(h0:h.get? a=some ZE)(x:h.DictLe a n):h'.DictLe a n:=
 λo es ep ho hd=>x o es ep (h0.trans ((e _ h0).symm.trans ho)) hd
theorem fZ{f:Int->Option aB}(x:h.MapOf (ik C) a f):∃o,h.get? a=some o:=j8 x λo _ _ ho _=>⟨o,ho⟩
theorem mH{f:Int->Bool}{n:Nat}(x:h.SetOf (ik C) a f n):∃o,h.get? a=some o:=m8 x λo _ _ _ ho _=>⟨o,ho⟩
theorem gone{α:Type}{x:Option α}{a:α}(h:x=none)(e:x=some a):P:=nn (h.symm.trans e)
theorem none_of{α β:Type}{x:Option α}{y:Option β}(k:∀a,x=some a->∃b,y=some b)(h:y=none):x=none:=match x,k with
 |none,_=>rfl
 |some a,k=>xE (k a rfl) λ_ e=>gone h e
theorem Step.trans(x:Step C G G' s s')(y:Step C G' EX s' qo):Step C G EX s qo where
 ext:=x.ext.trans y.ext
 keep:=λa o f e=>y.keep a o ⟨f.1,λq=>(x.kB a q).elim f.2 λq=>gone q e⟩ (x.keep a o f e)
 alive:=λa o e=>xE (x.alive a o e) (y.alive a)
 lx:=λa o e=>(y.lx a o e).elim (x.lx a o) λq=>.inr (none_of (x.alive a) q)
 kB:=λa e=>(y.kB a e).elim (x.kB a) λq=>.inr (none_of (x.alive a) q)
 gens:=y.gens.trans x.gens
 os:=y.os.trans x.os
theorem Step.free(x:Step C G G' s s')(f:eQ C G a){o:jX}(e:s.heap.get? a=some o):eQ C G' a:=⟨f.1,λq=>(x.kB a q).elim f.2 λq=>gone q e⟩
theorem Step.Aq(x:Step C G G' s s')(f:G.F a=none){o:jX}(e:s.heap.get? a=some o):G'.F a=none:=
 none_of (y:=(none:Option jX)) (λo' q=>(x.lx a o' q).elim (gone f) λq=>gone q e) rfl
theorem Step.at_(x:Step C G G' s s')(f:eQ C G a):∀o,s.heap.get? a=some o->s'.heap.get? a=some o:=λo e=>x.keep a o f e
theorem dI.step(x:Step C G G' s s'){o:OB}(y:dI C G O s.heap r v o):dI C G' O s'.heap r v o:=
 m9 y λa hv hO lC hF c=>match o,c with
  |.list xs,c=>gg c λvs n e q=>⟨a,hv,hO,x.free lC e,x.Aq hF e,vs,n,x.keep _ _ lC e,q.mono x.ext⟩
  |.dict es,c=>AA c λhs f vs e q1 q2 q3 q4=>xE (fZ e) λo ho=>⟨a,hv,hO,x.free lC ho,x.Aq hF ho,hs,f,vs,lz (x.at_ lC) e,q1.mono x.ext,q2,lh (x.at_ lC) ho q3,q4⟩
  |.set xs,c=>xE (mH c.1) λo ho=>⟨a,hv,hO,x.free lC ho,x.Aq hF ho,oJ (x.at_ lC) c.1,c.2.1,c.2.2.at_ (x.at_ lC)⟩
theorem gw.step(x:Step C G G' s s')(y:gw C G O s.heap ρ k vs iG):gw C G' O s'.heap ρ k vs iG:=y.ind (λ_=>trivial) λ_ _ _ _ _ a _ ih=>⟨a.step x,ih⟩
theorem f6.step(x:Step C G G' s s'){o:OF}(y:f6 C G O s.heap r v o):f6 C G' O s'.heap r v o:=match o,y with
 |.fv d,y=>Rep.mono x.ext y
 |.ob o,y=>dI.step x y
theorem gb.step(x:Step C G G' s s'){es:List b7}(y:gb C G O s.heap ρ es fs):gb C G' O s'.heap ρ es fs:=y.ind trivial λ_ _ _ _ a b c _ ih=>⟨a,b,c.step x,ih⟩
theorem dM.step(x:Step C G G' s s')(y:dM C G O s.heap ρ v t):dM C G' O s'.heap ρ v t:=match t,y with
 |.ob o,y=>dI.step x y
 |.gu iG,y=>fS y λa vs n hv hO lC hF e q=>⟨a,vs,n,hv,hO,x.free lC e,x.Aq hF e,x.keep _ _ lC e,q.step x⟩
 |.inst c fs,y=>xA y λhc y=>jE y λa d i3 n y=>iQ y λhv hO lC hF e y=>uC y λuP Pb QV BN ed q hn=>
  ⟨hc,a,d,i3,n,hv,hO,x.free lC e,x.Aq hF e,x.keep _ _ lC e,uP,x.free Pb ed,x.Aq QV ed,BN,x.keep _ _ Pb ed,q.step x,hn⟩
theorem cV.step(x:Step C G G' s s')(y:cV C G O s.heap i sl ov):cV C G' O s'.heap i sl ov:=match sl,y with
 |.unset,y=>y
 |.val d,y=>bS y λv e q=>⟨v,e,q.mono x.ext⟩
 |.ro d,y=>bS y λv e q=>⟨v,e,q.mono x.ext⟩
 |.own t,y=>bS y λv e q=>⟨v,e,q.step x⟩
 |.bor t,y=>bS y λv e q=>⟨v,e,q.step x⟩
theorem cL.step(x:Step C G G' s s')(y:cL C G O sc ns env fr s.heap):cL C G' O sc ns env fr s'.heap where
 fn:=y.fn
 glob:=y.glob
 bi:=y.bi
 nodup:=y.nodup
 len:=y.len
 iK:=λa r e=>mF (y.iK a r e) λh1 h2 o ho=>⟨x.Aq h1 ho,x.free h2 ho,o,x.keep _ _ h2 ho⟩
 gl:=y.gl
 cl:=y.cl
 lN:=y.lN
 loc:=bS y.loc λm hm q=>⟨m,hm.at' (x.at_ (y.iK _ _ y.lN).2.1),λi z sl h1 h2 h3=>(q i z sl h1 h2 h3).step x⟩
 p9:=λi z sl h1 h2 h3=>xA (y.p9 i z sl h1 h2 h3) λhk y=>iH y λc ov e1 e2 e3 e4 y=>bS e2 λoc e2 Lz=>⟨hk,c,ov,e1,⟨oc,x.keep _ _ y.1 e2,Lz⟩,e3.step x,e4,x.free y.1 e2,y.2⟩
 iS:=y.iS
 code:=y.code.imp id λy=>xE y λq c=>⟨q,c.mono x.ext.f⟩
 ro:=λhm i z d h1 h2=>gg (y.ro hm i z d h1 h2) λc o h3 h4=>⟨c,o,h3,x.ext.f _ _ h4⟩
def mx(C:Cx)(G:Gh)(h₀ h:eu)(v:aB)(t:OT):Prop:=
 ∃O:aO->Option Role,(∀a r,O a=some r->h₀.get? a=none/\(∃k,r=.own 0 k/\k≠n3)/\G.F a=none/\eQ C G a/\∃o,h.get? a=some o)/\dM C G O h (λk=>some (.own 0 k)) v t
def cE(C:Cx)(G:Gh)(O:aO->Option Role)(h₀ h:eu)(v:aB):EV->Prop
 |.fv d=>Rep C G v d
 |.bor t=>∃ρ:Nat->Role,dM C G O h (λk=>some (ρ k)) v t
 |.own t=>mx C G h₀ h v t
theorem mx.step(x:Step C G G' s s')(y:mx C G h₀ s.heap v t):mx C G' h₀ s'.heap v t:=bS y λO h1 h2=>
 ⟨O,λa r e=>ng (h1 a r e) λq1 q2 q3 q4 o q5=>⟨q1,q2,x.Aq q3 q5,x.free q4 q5,o,x.keep _ _ q4 q5⟩,h2.step x⟩
theorem mx.vy(k:∀a o,h₀.get? a=some o->∃o',km.get? a=some o')(y:mx C G km h v t):mx C G h₀ h v t:=bS y λO h1 h2=>
 ⟨O,λa r e=>⟨none_of (k a) (h1 a r e).1,(h1 a r e).2⟩,h2⟩
theorem cE.step{e:EV}(x:Step C G G' s s')(y:cE C G O h₀ s.heap v e):cE C G' O h₀ s'.heap v e:=match e,y with
 |.fv d,y=>Rep.mono x.ext y
 |.bor t,y=>xE y λρ q=>⟨ρ,q.step x⟩
 |.own t,y=>mx.step x y
theorem cE.vy{e:EV}(k:∀a o,h₀.get? a=some o->∃o',km.get? a=some o')(y:cE C G O km h v e):cE C G O h₀ h v e:=match e,y with
 |.fv d,y=>y
 |.bor t,y=>y
 |.own t,y=>mx.vy k y
def PE(C:Cx)(G:Gh)(O:aO->Option Role)(s:aN)(e:EV)(wl:WL)(v:aB)(s':aN):Prop:=
 ∃G',Step C G G' s s'/\bz C G' wl s'.heap/\cE C G' O s.heap s'.heap v e
abbrev ee:aB->aN->Prop:=λ_ _=>False
theorem PE.after{e:EV}(x:Step C G G' s s')(y:PE C G' O s' e wl v qo):PE C G O s e wl v qo:=dT y λG2 h1 h2 h3=>⟨G2,x.trans h1,h2,h3.vy λa o q=>x.alive a o q⟩
theorem cX{α:Type}{M:Model}{t:Sem α}{P Q:α->aN->Prop}(h:aK M A t P ee s)(k:∀a s',P a s'->Q a s'):aK M A t Q E s:=
 dQ h k λ_ _ q=>q.elim
theorem Step.grow(h:eu)(t:Nat)(k:∀a o,s.heap.get? a=some o->h.get? a=some o):Step C G G s {s with heap:=h,toks:=t}:=
 ⟨.refl G,λa o _ e=>k a o e,λa o e=>⟨o,k a o e⟩,λ_ _ e=>.inl e,λ_ e=>.inl e,rfl,rfl⟩
theorem gI.grow(W:gI C G h ow wl)(x:Ext G G')(f:∀a,(G.F a=none/\∃o,h.get? a=some o)->G'.F a=none)(k:∀a o,h.get? a=some o->h'.get? a=some o):gI C G' h' ow wl:=match ow,wl,W with
 |some a,some ds,W=>nX W λh1 vs n h2 r=>⟨f _ ⟨h1,_,h2⟩,vs,n,k _ _ h2,r.mono x⟩
 |none,none,_=>trivial
theorem bz.grow(W:bz C G wl h)(k:∀a o,h.get? a=some o->h'.get? a=some o):bz C G wl h' where
 sub:=λa o e=>k a o (W.sub a o e)
 base:=W.base
 tabs:=λq hq=>qn (W.tabs q hq) λh1 h2 ps h3 r=>⟨h1,h2,ps,k _ _ h3,r⟩
 well:=W.well.grow (.refl G) (λ_ h=>h.1) k
noncomputable def Gh.with(G:Gh)(h:eu)(P:aO->Prop)[DecidablePred P]:Gh:=⟨λa=>if P a then h.get? a else G.F a,G.aw⟩
theorem fT{P:aO->Prop}[DecidablePred P](q:P a):(G.with h P).F a=h.get? a:=if_pos q
theorem oE{P:aO->Prop}[DecidablePred P](q:¬P a):(G.with h P).F a=G.F a:=if_neg q
theorem jr{P:aO->Prop}[DecidablePred P](B:y8 G h₀)(hP:∀a,P a->h₀.get? a=none):Ext G (G.with h P):=
 ⟨λa o e=>(oE λq=>gone (hP a q) (B a o e)).trans e,λ_ e=>e⟩
theorem yj{t:Nat}{P:aO->Prop}[DecidablePred P](B:y8 G s.heap)(hP:∀a,P a->s.heap.get? a=none)(k:∀a o,s.heap.get? a=some o->h.get? a=some o):
 Step C G (G.with h P) s {s with heap:=h,toks:=t}:=
 ⟨jr B hP,λa o _ e=>k a o e,λa o e=>⟨o,k a o e⟩,λa o e=>if q:P a then .inr (hP a q)else .inl ((oE q).symm.trans e),λ_ e=>.inl e,rfl,rfl⟩
theorem ye{P:aO->Prop}[DecidablePred P](W:bz C G wl h)(hP:∀a,P a->h.get? a=none)(k:∀a o,h.get? a=some o->h'.get? a=some o):bz C (G.with h' P) wl h' where
 sub:=λa o e=>if q:P a then(fT q).symm.trans e else k a o (W.sub a o ((oE q).symm.trans e))
 base:=λa o e=>(jr W.sub hP).f a o (W.base a o e)
 tabs:=λq hq=>vb (W.tabs q hq) λh1 h2 ps h3 h4 h5=>⟨(oE λhp=>gone (hP _ hp) h3).trans h1,h2,ps,k _ _ h3,h4,λpos cv e=>(h5 pos cv e).mono (jr W.sub hP).f⟩
 well:=W.well.grow (jr W.sub hP) (λa h1=>Us h1 λh1 o h2=>(oE λhp=>gone (hP _ hp) h2).trans h1) k
theorem eP{e:EV}(t:Nat)(W:bz C G wl s.heap)(h:cE C G O s.heap s.heap v e):PE C G O s e wl v {s with toks:=t}:=
 ⟨G,.tok C G s t,W,h⟩
theorem mj{e:EV}(W:bz C G wl s.heap)(h:cE C G O s.heap s.heap v e):PE C G O s e wl v s:=
 ⟨G,.refl C G s,W,h⟩
theorem l8(o:jX)(t:Nat)(hf:o.isFreed=false)(W:bz C G wl s.heap)(h:∀G':Gh,Ext G G'->G'.F s.heap.objs.size=some o->Rep C G' v d):
 PE C G O s (.fv d) wl v {s with heap:=s.heap.push o,toks:=t}:=by
 have hn:s.heap.get? s.heap.objs.size=none:=by
  induction q:s.heap.get? s.heap.objs.size using aA with
  |none=>rfl
  |some o'=>exact absurd (bb q) (b9 _)
 have hP:∀a,a=s.heap.objs.size->s.heap.get? a=none:=λa e=>by exact eW e<|hn
 have hk:∀a o',s.heap.get? a=some o'->(s.heap.push o).get? a=some o':=λa o' e=>a_ o e;refine⟨G.with (s.heap.push o) (λa=>a=s.heap.objs.size),yj W.sub hP hk,ye W hP hk,h _ (jr W.sub hP) ?_⟩;exact(fT (P:=λa=>a=s.heap.objs.size) rfl).trans (bI _ hf)
theorem dN{n:Nat}(h:cg n=true):n<=2^20:=of_decide_eq_true h
theorem NM{i:Int}(h:Rep C G v (.int i)):∃t,v=.int i t:=h.inv
theorem NL(h:Rep C G v (.str x)):∃t,v=.str x t:=h.inv
theorem JR(h:Rep C G v (.bool b)):v=.bool b:=h.inv
theorem JQ(h:Rep C G v .none):v=.none:=h.inv
@[elab_as_elim] theorem ug{P:aB->Prop}{i:Int}(h:Rep C G v (.int i))(k:∀t,P (.int i t)):P v:=xE (NM h) λt e=>e▸k t
@[elab_as_elim] theorem RU{P:aB->Prop}(h:Rep C G v (.str x))(k:∀t,P (.str x t)):P v:=xE (NL h) λt e=>e▸k t
@[elab_as_elim] theorem Q7{P:aB->Prop}(h:Rep C G v (.bool b))(k:P (.bool b)):P v:=JR h▸k
@[elab_as_elim] theorem Fv{P:aB->Prop}(h:Rep C G v .none)(k:P .none):P v:=JQ h▸k
@[elab_as_elim] theorem iA{P:aB->Prop}{e:EV}{i:Int}(R:cE C G O h₀ km v e)(h:pP e=some i)(k:∀t,P (.int i t)):P v:=(n7 (P:=λe=>cE C G O h₀ km v e->P v) h λR=>ug R k) R
@[elab_as_elim] theorem yO{P:aB->Prop}{e:EV}(R:cE C G O h₀ km v e)(h:L8 e=some x)(k:∀t,P (.str x t)):P v:=(XG (P:=λe=>cE C G O h₀ km v e->P v) h λR=>RU R k) R
theorem zE{e:EV}(W:bz C G wl s.heap)(R:cE C G O h₀ s.heap v e)(h:e.eh=some xs):
 ∃a vs n,v=.ref a/\s.heap.get? a=some {cls:=.type "list",data:=.seq vs.toArray n}/\bB C G vs xs:=
 (EV.Ad (P:=λe=>cE C G O h₀ s.heap v e->_) h (λd h R=>(FV.xF (P:=λd=>Rep C G v d->_) h λR=>jM R.inv λa vs n e f r=>⟨a,vs,n,e,W.sub _ _ f,r⟩) R)
   λt h R=>ob h λo h1 h2=>xE R λρ R=>(OT.zw (P:=λt=>dM C G O s.heap (λk=>some (ρ k)) v t->_) h1 (OB.xF (P:=λo=>dI C G O s.heap (some (ρ 0)) v o->_) h2 λR=>m9 R λa hv _ _ _ R=>gg R λvs n e q=>⟨a,vs.toList,n,hv,e,q⟩)) R) R
@[elab_as_elim] theorem listI{P:aB->Prop}{e:EV}(W:bz C G wl s.heap)(R:cE C G O h₀ s.heap v e)(h:e.eh=some xs)
   (k:∀a vs n,s.heap.get? a=some {cls:=.type "list",data:=.seq vs.toArray n}->bB C G vs xs->P (.ref a)):P v:=jM (zE W R h) λa vs n e f r=>e▸k a vs n f r
theorem Wy{a:Int}(h:a.natAbs<2^63):dw a<=64:=
 have k:∀b:Int,b.natAbs=a.natAbs->b<2^64:=λb e=>Int.lt_of_le_of_lt Int.le_natAbs (MD (dn.mpr (e▸h)) (by decide))
 intBits_le_64 (Int.neg_lt_of_neg_lt (k (-a) (Int.natAbs_neg a))) (k a rfl)
theorem VN{op:Operator}{x y r:Int}{t t':Tok}(e:L6 op x y=some r)(h:∀u tk,Q (.int r u) {s with toks:=tk}):
 aK C.M A (binaryOp op (.int x t) (.int y t')) Q ee s:=
 have H:∀{z:Int},some z=some r->∀u tk,Q (.int z u) {s with toks:=tk}:=λe=>(ag e).symm▸h
 match op,e with
 |.Add,e=>Y6 (H e _ _)
 |.Sub,e=>YM (H e _ _)
 |.Mult,e=>dU e λhb e=>YT (H e _ _) (hb.elim (λq=>.of_left (Wy q)) λq=>.of_right (Wy q))
 |.Mod,e=>dU e λhb e=>YU hb (H e _ _)
 |.Pow,e=>dU e λhb e=>YO hb.1 hb.2 (H e _ _)
 |.LShift,e=>dU e λhb e=>YW hb.1 hb.2.1 hb.2.2 (H e _ _)
 |.RShift,e=>dU e λhb e=>YN hb (H e _ _)
 |.BitOr,e=>YQ (H e _ _)
 |.BitAnd,e=>Y4 (H e _ _)
 |.FloorDiv,e=>dU e λhb e=>Y1 hb.1 (H e _ _) (.inl (PyProof.noPylong_of_log2 (az ((Y9 λq=>hb.1 (Int.natAbs_eq_zero.mp q)).mpr hb.2) (by decide+kernel))))
 |.MatMult,e=>nn e
 |.Div,e=>nn e
 |.BitXor,e=>nn e
theorem VR{op:Operator}{a b x:EV}(W:bz C G wl s.heap)(Ra:cE C G O h₀ s.heap v a)(Rb:cE C G O km s.heap u b)(e:i7 op a b=some x):
 aK C.M A (binaryOp op v u) (PE C G O s x wl) ee s:=
 oe e (λ_ e=>dU e λho e=>ho▸oe e
  (λ_ e=>ob e λxs ha e=>ob e λys hb e=>dU e λhz e=>listI W Ra ha λa vs n h1 r1=>listI W Rb hb λb us n' h2 r2=>sk e (by
    refine P.add_list h1 h2 (l8 _ s.toks rfl W λG' x1 x2=>?_) (by have:=dN hz;refine eW dp<|eW cj<|eW cj<|eW r1.length<|eW r2.length ?_;lia);refine .list (vs:=vs++us) (n:=0) ?_ ((r1.append r2).mono x1);refine eW x2 ?_;simp))
  λx h1 e=>ob e λy h2 e=>dU e λhz e=>yO Ra h1 λt=>yO Rb h2 λt'=>sk e (Y5 (λt' tk=>eP tk W (.str _ _)) (by have:=dN hz;refine eW dp ?_;unfold abc;lia)))
  λx h1 e=>ob e λy h2 e=>om e λr e1=>iA Ra h1 λt=>iA Rb h2 λt'=>VN e1 λu tk=>eP tk W (.int _ _)
theorem fE{is:List Int}(h:bB C G vs xs)(e:eZ xs=some is):IntsAre vs is:=
 h.ind (P:=λvs xs=>∀is,eZ xs=some is->IntsAre vs is) (λis e=>sk e .nil) (λv d vs ds a r ih is e=>ob e λi h1 e=>om e λjs e1=>(FV.D2 (P:=λd=>Rep C G v d->_) h1 λa=>ug a λt=>.cons _ _ (ih js e1)) a) is e
theorem wY{is:List bA}(h:bB C G vs xs)(e:Ag xs=some is):StrsAre vs is:=
 h.ind (P:=λvs xs=>∀is,Ag xs=some is->StrsAre vs is) (λis e=>sk e .nil) (λv d vs ds a r ih is e=>ob e λi h1 e=>om e λjs e1=>(FV.Se (P:=λd=>Rep C G v d->_) h1 λa=>RU a λt=>.cons _ _ (ih js e1)) a) is e
theorem uG{a:EV}{Q:Bool->aN->Prop}(W:bz C G wl s.heap)(R:cE C G O h₀ s.heap v a)(e:iR a=some b)(h:∀tk,Q b {s with toks:=tk}):
 aK C.M A (truthy v) Q ee s:=
 have lst:∀xs,a.eh=some xs->CS xs=some b->aK C.M A (truthy v) Q ee s:=λxs ha e=>dU e λhz e=>listI W R ha λa vs n h1 r1=>by
  refine wpAny_truthy_list ⟨_,h1,rfl,n,rfl⟩ (by have:=dN hz;have:=r1.length;simp only[cj];lia) ?_
  have:(!vs.toArray.isEmpty)= !xs.isEmpty:=r1.ind rfl λ_ _ _ _ _ _ _=>rfl;exact eW this<|eW (ag e)<|h _
 match a,R,e,lst with
 |.fv d,R,e,lst=>se e (λc e=>(FV.vC (P:=λd=>Rep C G v d->_) c λR=>Fv R (truthy_none ((ag e).symm▸h s.toks))) R)
   λ_ e=>oe e (λ_ e=>ob e lst) λb' h1 e=>(FV.XF (P:=λd=>Rep C G v d->_) h1 λR=>Q7 R (kE ((ag e).symm▸h s.toks))) R
 |.bor t,R,e,lst=>ob e lst
 |.own t,R,e,lst=>nn e
theorem ZC{op:UnaryOp}{a x:EV}(W:bz C G wl s.heap)(R:cE C G O h₀ s.heap v a)(e:Nk op a=some x):
 aK C.M A (unaryOp op v) (PE C G O s x wl) ee s:=match op,e with
 |.USub,e=>om e λi h1=>iA R h1 λt=>xu (eP _ W (.int _ _))
 |.Invert,e=>om e λi h1=>iA R h1 λt=>YY (eP _ W (.int _ _))
 |.Not,e=>om e λb e1=>not_of (uG W R e1 λtk=>eP tk W (.bool _))
 |.UAdd,e=>nn e
theorem tP(i:Int)(t:Tok):(ik C).is i (.int i t)=true:=intKind_is pw C.w i t
theorem nB:∀{es:List (Int×FV)}{vs:List aB}{i:Int},bB C G vs (es.map (·.2))->(∀d,es.lookup i=some d->∃w,((es.map (·.1)).zip vs).lookup i=some w/\Rep C G w d)/\(es.lookup i=none->((es.map (·.1)).zip vs).lookup i=none)
 |[],_,_,h=>⟨λ_ e=>nn e,λ_=>rfl⟩
 |(j,d)::r,vs,i,h=>by
  have h:bB C G vs (d::r.map (·.2)):=h;refine h.rS λv vs a h'=>?_;simp only[bL,bT,gE];induction i==j using ax with
  |true=>exact⟨λd e=>sk e ⟨_,rfl,a⟩,λe=>nomatch e⟩
  |false=>exact nB h'
theorem Pw{e:EV}{es:List (Int×FV)}(W:bz C G wl s.heap)(R:cE C G O h₀ s.heap v e)(h:e.wZ=some es):
 ∃a f vs,v=.ref a/\(a==sysModules)=false/\s.heap.MapOf (ik C) a f/\bB C G vs (es.map (·.2))/\∀k,f k=((es.map (·.1)).zip vs).lookup k:=
 (EV.Ad (P:=λe=>cE C G O h₀ s.heap v e->_) h (λd h R=>(FV.LG (P:=λd=>Rep C G v d->_) h λR=>jM R.inv λa f vs e b q=>bS b λo b1 b2=>⟨a,f,vs,e,q.1,b2 _ (W.sub _ _ b1),q.2⟩) R)
   λt h R=>ob h λo h1 h2=>xE R λρ R=>(OT.zw (P:=λt=>dM C G O s.heap (λk=>some (ρ k)) v t->_) h1 (OB.LG (P:=λo=>dI C G O s.heap (some (ρ 0)) v o->_) h2 λR=>m9 R λa hv _ _ _ R=>nX R λhs f vs e q=>⟨a,f,vs,hv,hs,e,q.1,q.2.1⟩)) R) R
theorem RW{e:EV}{xs:List Int}(W:bz C G wl s.heap)(R:cE C G O h₀ s.heap v e)(h:e.L7=some xs):
 ∃a,v=.ref a/\s.heap.SetOf (ik C) a (λk=>xs.contains k) xs.length:=
 (EV.Ad (P:=λe=>cE C G O h₀ s.heap v e->_) h (λd h R=>(FV.AR (P:=λd=>Rep C G v d->_) h λR=>bS R.inv λa e b=>bS b λo b1 b2=>⟨a,e,b2 _ (W.sub _ _ b1)⟩) R)
   λt h R=>ob h λo h1 h2=>xE R λρ R=>(OT.zw (P:=λt=>dM C G O s.heap (λk=>some (ρ k)) v t->_) h1 (OB.AR (P:=λo=>dI C G O s.heap (some (ρ 0)) v o->_) h2 λR=>m9 R λa hv _ _ _ R=>⟨a,hv,R.1⟩)) R) R
theorem RM(W:bz C G wl s.heap)(R:Rep C G v (.tup xs)):∃a vs n,v=.ref a/\s.heap.get? a=some {cls:=.type "tuple",data:=.seq vs.toArray n}/\bB C G vs xs:=jM R.inv λa vs n e f r=>⟨a,vs,n,e,W.sub _ _ f,r⟩
@[elab_as_elim] theorem Q3{P:aB->Prop}{e:EV}{es:List (Int×FV)}(W:bz C G wl s.heap)(R:cE C G O h₀ s.heap v e)(h:e.wZ=some es)
   (k:∀a f vs,(a==sysModules)=false->s.heap.MapOf (ik C) a f->bB C G vs (es.map (·.2))->(∀k,f k=((es.map (·.1)).zip vs).lookup k)->P (.ref a)):P v:=I8 (Pw W R h) λa f vs e h1 h2 h3 h4=>e▸k a f vs h1 h2 h3 h4
@[elab_as_elim] theorem Zl{P:aB->Prop}{e:EV}{xs:List Int}(W:bz C G wl s.heap)(R:cE C G O h₀ s.heap v e)(h:e.L7=some xs)
   (k:∀a,s.heap.SetOf (ik C) a (λk=>xs.contains k) xs.length->P (.ref a)):P v:=bS (RW W R h) λa e h=>e▸k a h
@[elab_as_elim] theorem tupI{P:aB->Prop}(W:bz C G wl s.heap)(R:Rep C G v (.tup xs))
   (k:∀a vs n,s.heap.get? a=some {cls:=.type "tuple",data:=.seq vs.toArray n}->bB C G vs xs->P (.ref a)):P v:=jM (RM W R) λa vs n e f r=>e▸k a vs n f r
@[elab_as_elim] theorem Q2{P:aB->Prop}{e:EV}(W:bz C G wl s.heap)(R:cE C G O h₀ s.heap v e)(h:e.t?=some xs)
   (k:∀a vs n,s.heap.get? a=some {cls:=.type "tuple",data:=.seq vs.toArray n}->bB C G vs xs->P (.ref a)):P v:=
  ob h λd h1 h2=>(eg (P:=λe=>cE C G O h₀ s.heap v e->P v) h1 (FV.CX (P:=λd=>Rep C G v d->P v) h2 λR=>tupI W R k)) R
theorem Kb{b:EV}{r:Bool}(W:bz C G wl s.heap)(Ra:Rep C G v d)(Rb:cE C G O h₀ s.heap u b)(e:F_ d b=some r):
 (∀Q:aB->aN->Prop,(∀tk,Q (.bool r) {s with toks:=tk})->aK C.M A (compareOp .In v u) Q ee s)/\
 (∀Q:aB->aN->Prop,(∀tk,Q (.bool (!r)) {s with toks:=tk})->aK C.M A (compareOp .NotIn v u) Q ee s):=
 oe e (λ_ e=>ob e λx h1 e=>ob e λds h2 e=>om e λis e1=>(FV.Se (P:=λd=>Rep C G v d->_) h1 λRa=>RU Ra λt=>Q2 W Rb h2 λa vs n h3 r1=>
  ⟨λQ h=>in_tuple_strs ⟨_,h3,rfl,n,rfl⟩ (wY r1 e1) (h s.toks),λQ h=>ai (contains_tuple_strs ⟨_,h3,rfl,n,rfl⟩ (wY r1 e1) (ar (h s.toks)))⟩) Ra)
  λi h1 e=>(FV.D2 (P:=λd=>Rep C G v d->_) h1 λRa=>ug Ra λt=>oe e
   (λ_ e=>oe e (λ_ e=>oe e
     (λ_ e=>ob e λes h2 e=>sk e (Q3 W Rb h2 λa f vs hs h3 r1 q=>
       have e3:(f i).isSome=(es.lookup i).isSome:=(q i).symm▸(match hq:es.lookup i with
        |none=>((nB r1).2 hq).symm▸rfl
        |some d=>bS ((nB r1).1 d hq) λw e _=>e.symm▸rfl)
       ⟨λQ h=>wpAny_in_of (tP _ _) hs h3 (e3.symm▸h _),λQ h=>wpAny_notIn_of (tP _ _) hs h3 (e3.symm▸h _)⟩))
     λxs h2 e=>sk e (Zl W Rb h2 λa h3=>⟨λQ h=>wpAny_inSet_of (tP _ _) rfl h3 (h _),λQ h=>wpAny_notInSet_of (tP _ _) rfl h3 (h _)⟩))
     λxs h2 e=>om e λis e1=>listI W Rb h2 λa vs n h3 r1=>⟨λQ h=>in_list_ints ⟨_,h3,rfl,n,rfl⟩ (fE r1 e1) (h s.toks),λQ h=>notin_list_ints ⟨_,h3,rfl,n,rfl⟩ (fE r1 e1) (h s.toks)⟩)
   λxs h2 e=>om e λis e1=>Q2 W Rb h2 λa vs n h3 r1=>⟨λQ h=>in_tuple_ints ⟨_,h3,rfl,n,rfl⟩ (fE r1 e1) (h s.toks),λQ h=>notin_tuple_ints ⟨_,h3,rfl,n,rfl⟩ (fE r1 e1) (h s.toks)⟩) Ra
section
variable {d:Nat}
theorem oH(Rm:Mo k d A):A.units+64<cLine:=az (Nat.add_lt_add_of_lt_of_le (aQ (ak (ak (aP _ (24*k)) (aP _ (3*d))) (aP _ 60)) Rm.units) (aT 64)) (by decide)
theorem VQ{a b:EV}{r:Bool}(Rm:Mo k d A)(W:bz C G wl s.heap)(Ra:cE C G O h₀ s.heap v a)(Rb:cE C G O km s.heap u b)(e:UK a b=some r):
 (∀Q:aB->aN->Prop,(∀tk,Q (.bool r) {s with toks:=tk})->aK C.M A (compareOp .Eq v u) Q ee s)/\
 (∀Q:aB->aN->Prop,(∀tk,Q (.bool (!r)) {s with toks:=tk})->aK C.M A (compareOp .NotEq v u) Q ee s):=
 oe e (λ_ e=>oe e
  (λ_ e=>ob e λxs ha e=>ob e λys hb e=>ob e λis hi e=>ob e λjs hj e=>listI W Ra ha λa vs n h1 r1=>listI W Rb hb λb us n' h2 r2=>sk e
    ⟨λQ h=>eq_intsK ⟨_,h1,rfl,n,rfl⟩ (fE r1 hi) ⟨_,h2,rfl,n',rfl⟩ (fE r2 hj) (oH Rm) (h s.toks),
      λQ h=>ne_intsK ⟨_,h1,rfl,n,rfl⟩ (fE r1 hi) ⟨_,h2,rfl,n',rfl⟩ (fE r2 hj) (oH Rm) (h s.toks)⟩)
  λx h1 e=>om e λy h2=>yO Ra h1 λt=>yO Rb h2 λt'=>⟨λQ h=>Y2 (h s.toks),λQ h=>YR (h s.toks)⟩)
  λx h1 e=>om e λy h2=>iA Ra h1 λt=>iA Rb h2 λt'=>⟨λQ h=>Y3 (h s.toks),λQ h=>YS (h s.toks)⟩
theorem N1{a b:EV}(Rm:Mo k d A)(W:bz C G wl s.heap)(Ra:cE C G O h₀ s.heap v a)(Rb:cE C G O km s.heap u b)(e:QA a b=true)
 (h:Q (.bool true) s):aK C.M A (compareOp .NotEq v u) Q ee s:=
 an e λe1 e2=>oP e1 λxs ha e1=>oP e2 λys hb e2=>listI W Ra ha λa vs n h1 r1=>listI W Rb hb λb us n' h2 r2=>
  MU ⟨_,h1,rfl,n,rfl⟩ ⟨_,h2,rfl,n',rfl⟩ (by
   have l1:=r1.length;have l2:=r2.length;rw[fe.mp e2]at l2;exact eW cj<|eW cj<|eW l1<|eW l2<|bne_iff_ne.mpr λc=>by rw[n_.mp c]at e1;exact ff e1) (aQ (aP _ 64) (oH Rm)) _ _ _ _ h
theorem yp{a b:EV}{r:Bool}(Rm:Mo k d A)(W:bz C G wl s.heap)(Ra:cE C G O h₀ s.heap v a)(Rb:cE C G O km s.heap u b)(e:mR op a b=some r)
 (h:∀tk,Q (.bool r) {s with toks:=tk}):aK C.M A (compareOp op v u) Q ee s:=
 have H:∀{z:Bool},some z=some r->∀tk,Q (.bool z) {s with toks:=tk}:=λe=>(ag e).symm▸h
 match op,e with
 |.Eq,e=>(VQ Rm W Ra Rb e).1 Q h
 |.NotEq,e=>oe e (λ_ e=>dU e λhl e=>N1 Rm W Ra Rb hl (H e s.toks)) λr' h1 e=>(VQ Rm W Ra Rb h1).2 Q (H e)
 |.Lt,e=>ob e λx h1 e=>ob e λy h2 e=>iA Ra h1 λt=>iA Rb h2 λt'=>YV (H e s.toks)
 |.LtE,e=>ob e λx h1 e=>ob e λy h2 e=>iA Ra h1 λt=>iA Rb h2 λt'=>YX (H e s.toks)
 |.Gt,e=>ob e λx h1 e=>ob e λy h2 e=>iA Ra h1 λt=>iA Rb h2 λt'=>YZ (H e s.toks)
 |.GtE,e=>ob e λx h1 e=>ob e λy h2 e=>iA Ra h1 λt=>iA Rb h2 λt'=>Y0 (H e s.toks)
 |.In,e=>ob e λd h1 e=>(eg (P:=λa=>cE C G O h₀ s.heap v a->_) h1 λRa=>(Kb W Ra Rb e).1 Q h) Ra
 |.NotIn,e=>ob e λd h1 e=>Ap e λr' h2 e=>(eg (P:=λa=>cE C G O h₀ s.heap v a->_) h1 λRa=>(Kb W Ra Rb h2).2 Q (H e)) Ra
 |.Is,e=>ob e λd h1 e=>dU e λhn e=>(eg (P:=λb=>cE C G O km s.heap u b->_) h1 (FV.vC (P:=λd=>Rep C G u d->_) (bN hn) λRb=>Fv Rb
   (ob e λd' h2 e=>(eg (P:=λa=>cE C G O h₀ s.heap v a->_) h2 λRa=>se e (λhn e=>(FV.vC (P:=λd=>Rep C G v d->_) (bN hn) λRa=>Fv Ra (is_none_none (H e s.toks))) Ra)
     λ_ e=>Ap e λx h3 e=>(FV.rO (P:=λd=>Rep C G v d->_) h3 λRa=>m8 Ra.inv λx dx i3 n e' _=>e'▸is_none_ne (λq=>nomatch q) (H e s.toks)) Ra) Ra))) Rb
 |.IsNot,e=>nn e
theorem Og{α:Type}{xs:List α}{i:Int}{x:α}(h:Fs xs i=some x):∃j,seqIndex? i xs.length=some j/\xs[j]?=some x:=
 have lt:∀{j:Nat},xs[j]?=some x->j<xs.length:=λh=>(c9.mp h).1
 se h (λh0 h=>⟨i.toNat,by simp only[seqIndex?,if_neg (pq.mpr h0)];have:=lt h;rw[if_pos];simp;lia,h⟩)
  λh0 h=>dU h λh1 h=>⟨(i+xs.length).toNat,by
   have:=lt h;simp only[seqIndex?,if_pos (MC.mp h0)];rw[if_pos];simp;lia,h⟩
theorem Fq{vs:List aB}{xs:List FV}{i:Int}{d:FV}(R:bB C G vs xs)(h:Fs xs i=some d):∃w,Fs vs i=some w/\Rep C G w d:=by
 delta Fs at h⊢;exact eW R.length<|se h (λh0 h=>by exact eW (if_pos h0)<|R.get h) λh0 h=>dU h λh1 h=>by exact eW (if_neg h0)<|eW (if_pos h1)<|R.get h
theorem item_list{n:Nat}{i:Int}{t:Tok}{w:aB}(hl:s.heap.get? l=some {cls:=.type "list",data:=.seq vs.toArray n})(hi:BK i=true)(h:Fs vs i=some w)(hQ:Q w s):
 aK C.M A (getItem (.ref l) (.int i t)) Q ee s:=
 have hb: -(2^62)<=i/\i<2^62:=of_decide_eq_true hi
 se h (λh0 h=>wpAny_getItem_list ⟨_,hl,rfl,n,rfl⟩ h0 (X_ hb.2 (by decide)) (by simpa using h) hQ)
  λh0 h=>dU h λh1 h=>wpAny_getItem_list_neg ⟨_,hl,rfl,n,rfl⟩ (MC.mp h0) (by simpa using h1) (by lia) (by simpa using h) hQ
theorem gw.get(y:gw C G O h ρ k vs iG)(e:iG[j]?=some xs):∃w,vs[j]?=some w/\dI C G O h (ρ (k+j)) w (.list xs):=
 y.ind (P:=λk vs iG=>∀j,iG[j]?=some xs->∃w,vs[j]?=some w/\dI C G O h (ρ (k+j)) w (.list xs)) (λ_ _ e=>nn e)
  (λk v _ _ _ a _ ih j=>j.casesOn (λe=>⟨v,rfl,ag e▸a⟩) λj e=>dc k 1 j▸ih j e) j e
theorem gw.length(y:gw C G O h ρ k vs iG):vs.length=iG.length:=y.ind (λ_=>rfl) λ_ _ _ _ _ _ _ ih=>congrArg (·+1) ih
theorem jj(hs:gq slice=true)(o i:aB):subscripted slice false o i=operate [o,i] (getItem o i):=by
 induction slice using bF<;>first|rfl|exact ff hs
theorem Ex{o:OB}(h2:t.o?=some o)(h3:o.l?=some xs):(EV.bor t).eh=some xs:=bs (f:=OB.l?) h2 h3
theorem Ey{o:OB}{xs:List (Int×FV)}(h2:t.o?=some o)(h3:o.d?=some xs):(EV.bor t).wZ=some xs:=bs (f:=OB.d?) h2 h3
theorem J'{n:Nat}{i:Int}{t:Tok}{x:EV}(hs:gq slice=true)(W:bz C G wl s.heap)(hl:s.heap.get? l=some {cls:=.type "list",data:=.seq vs.toArray n})
 (r:bB C G vs xs)(e:pick xs i=some x):aK C.M A (subscriptTail value slice (.ref l) (.int i t)) (PE C G O s x wl) ee s:=
 dU e λhk e=>om e λd e1=>bS (Fq r e1) λw e2 r2=>qi ⟨_,hl,rfl⟩ kG.lookup (item_list hl hk e2 (mj W r2)) (jj hs _ _)
theorem Ka{a x:EV}{es:List (Int×FV)}{k:Int}{t:Tok}(hs:gq slice=true)(W:bz C G wl s.heap)(Ra:cE C G O h₀ s.heap v a)(ha:a.wZ=some es)(e:(es.lookup k).map EV.fv=some x):
 aK C.M A (subscriptTail value slice v (.int k t)) (PE C G O s x wl) ee s:=
 om e λd e1=>Q3 W Ra ha λa f vs yD h1 r1 q=>bS ((nB r1).1 d e1) λw e2 r2=>qi h1.typeIs slot_dict_getitem.lookup (wpAny_getItem_of (tP _ _) h1 ((q k).trans e2) (eP _ W r2)) (jj hs _ _)
theorem J_{a x:EV}{k:Int}{t:Tok}(hs:gq slice=true)(W:bz C G wl s.heap)(Ra:cE C G O h₀ s.heap v a)(ha:a.eh=some xs)(e:pick xs k=some x):
 aK C.M A (subscriptTail value slice v (.int k t)) (PE C G O s x wl) ee s:=listI W Ra ha λa vs n h1 r1=>J' hs W h1 r1 e
theorem N3{value slice:af}{x:EV}{h₀:eu}{d:FV}{k:Int}{t:Tok}(hs:gq slice=true)(W:bz C G wl s.heap)(Ra:Rep C G v d)(e:QJ wl k d=some x):aK C.M A (subscriptTail value slice v (.int k t)) (PE C G O s x wl) ee s:=
 have Re:cE C G O h₀ s.heap v (.fv d):=Ra
 oe e (λh0 e=>oe e
  (λ_ e=>dU e λhw e=>(FV.Jc (P:=λd=>Rep C G v d->_) hw λRa=>bS Ra.inv λaw ea haw=>ob e λxs hx e=>by
    subst ea;subst hx
    have hw:=W.well;rw[haw]at hw;exact nX hw λ_ vs n h1 r1=>J' hs W (vs:=vs.toList) h1 r1 e) Ra)
  λes h2 e=>Ka hs W Re h2 e)
  λxs h2 e=>oe h2 (λ_ h2=>J_ hs W Re h2 e) λys h3 h2=>(FV.CX (P:=λd=>Rep C G v d->_) h3 λRa=>dU e λhk e=>om e λd e1=>tupI W Ra λa vs n h1 r1=>bS (Fq r1 (ag h2▸e1)) λw e2 r2=>bS (Og e2) λj e3 e4=>
   have hb: -(2^62)<=k/\k<2^62:=of_decide_eq_true hk
   have ht:IsTup s.heap a vs.toArray:=⟨_,h1,rfl,n,rfl⟩
   qi ht.typeIs slot_tuple_getitem.lookup (getItem_tuple ht (Ya (by decide) hb.1) (X_ hb.2 (by decide)) e3 (by simpa using e4) (mj W r2)) (jj hs _ _)) Ra
theorem Kj{k:Int}(q:gw C G O h ρ 1 vs iG)(e1:Fs iG k=some ys):∃j w,Fs vs k=some w/\dI C G O h (ρ (1+j)) w (.list ys):=by
 delta Fs at e1⊢;exact eW q.length<|se e1 (λh0 h=>by exact eW (if_pos h0)<|bS (q.get h) λw e2 e3=>⟨_,w,e2,e3⟩) λh0 h=>dU h λh1 h=>by exact eW (if_neg h0)<|eW (if_pos h1)<|bS (q.get h) λw e2 e3=>⟨_,w,e2,e3⟩
theorem N2{x:EV}{b:OT}{k:Int}{t:Tok}(hs:gq slice=true)(W:bz C G wl s.heap)(Ra:cE C G O h₀ s.heap v (.bor b))(e:QI k b=some x):aK C.M A (subscriptTail value slice v (.int k t)) (PE C G O s x wl) ee s:=
 oe e (λ_ e=>ob e λiG h2 e=>dU e λhk e=>om e λys e1=>xE Ra λρ Ra=>(OT.Ky (P:=λb=>dM C G O s.heap (λk=>some (ρ k)) v b->_) h2 λRa=>j8 Ra λl vs n hv q=>kI q λ_ _ _ h1 q=>by
  subst hv;exact gg (Kj q e1) λj w e2 e3=>qi ⟨_,h1,rfl⟩ kG.lookup (item_list (vs:=vs.toList) h1 hk e2 (mj W ⟨λ_=>ρ (1+j),e3⟩)) (jj hs _ _)) Ra)
  λo h2 e=>oe e (λ_ e=>ob e λes h3 e=>Ka hs W Ra (Ey h2 h3) e) λxs h3 e=>J_ hs W Ra (Ex h2 h3) e
theorem VO{value slice:af}{a i x:EV}{h₀ km:eu}(hs:gq slice=true)(W:bz C G wl s.heap)(Ra:cE C G O h₀ s.heap v a)(Ri:cE C G O km s.heap u i)(e:jq a i wl=some x):
 aK C.M A (subscriptTail value slice v u) (PE C G O s x wl) ee s:=
 ob e λk h1 e=>iA Ri h1 λt=>(EV.Ad (P:=λa=>cE C G O h₀ s.heap v a->_) e (λd e Ra=>N3 (h₀:=h₀) hs W Ra e) λb e Ra=>N2 hs W Ra e) Ra
theorem Fj{e:EV}{p:Option Int}(R:cE C G O h₀ s.heap v e)(h:Fm e=some p):IsPart v p/\∃q:Option (Int×Tok),v=partValue q/\q.map (·.1)=p:=
 ob h λd h1 h=>(eg (P:=λe=>cE C G O h₀ s.heap v e->_) h1 λR=>se h (λhn h=>(FV.vC (P:=λd=>Rep C G v d->_) (bN hn) λR=>Fv R (sk h ⟨.none,ab,rfl,rfl⟩)) R)
  λ_ h=>ob h λi h2 h=>dU h λ_ h=>(FV.D2 (P:=λd=>Rep C G v d->_) h2 λR=>ug R λt=>sk h ⟨.int _ _,some (_,t),rfl,rfl⟩) R) R
theorem N0{e:EV}{p:Int}(h:Fm e=some (some p)):0<=p:=
 ob h λd h1 h=>se h (λ_ h=>nn (ag h)) λ_ h=>ob h λi _ h=>dU h λq h=>ag (ag h)▸q.1
theorem VL{a lo hi x:EV}{vl vu:aB}{sl:aO}{wj:eu}(W:bz C G wl s.heap)(Ra:cE C G O h₀ s.heap v a)(Rl:cE C G O km s.heap vl lo)(Rh:cE C G O wj s.heap vu hi)
 (eE:s.heap.get? sl=some {cls:=.type "slice",data:=.fields #[vl,vu,.none]})(hs:∀o,subscripted slice false o (.ref sl)=operate [.ref sl,o] (getItem o (.ref sl)))(e:AW a lo hi=some x):
 aK C.M A (subscriptTail value slice v (.ref sl)) (PE C G O s x wl) ee s:=by
 refine ob e λl hl e=>ob e λu hu e=>?_
 (refine Us (Fj Rl hl) λpl ql q1=>?_;refine xA q1 ?_;clear q1;intro q2;subst q2;intro ql')
 (refine Us (Fj Rh hu) λpu qu q3=>?_;refine xA q3 ?_;clear q3;intro q4;subst q4;intro qu')
 refine oe e (λ_ e=>ob e λxs ha e=>dU e λhN e=>ob e λk hk e=>dU e λhz e9=>?_) λy hy e=>dU e λhz e=>?_
 . subst hk;obtain rfl:=d_.mp hN
   have IK:=dN hz
   have h0:=N0 hu;refine listI W Ra ha λa vs n h1 r1=>sk e9 ?_;refine qi (T:="list") ⟨_,h1,rfl⟩ kG.lookup (Ir ⟨_,h1,rfl,n,rfl⟩ ⟨_,eE,rfl,rfl⟩ pl pu .none (by simp) ?_ (by refine eW dp<|eW cj<|eW r1.length ?_;lia)) (hs _);refine l8 _ s.toks rfl W λG' x1 x2=>?_;refine .list (vs:=vs.take k.toNat) (n:=0) ?_ ((r1.take _).mono x1);refine eW x2 ?_
   have:=slicePick_upto' vs.toArray k.toNat;rw[show((k.toNat:Nat):Int)=k by lia]at this;exact eW this rfl
 . have IK:=dN hz
   refine yO Ra hy λt=>sk e ?_;refine qi (typeIs_str s _ t) PySem.F.slot_str_getitem.lookup (wpAny_getItem_str_slice (l:=ql) (u:=qu) (st:=none) ⟨_,eE,rfl,rfl⟩ rfl ?_) (hs _)
   have e1:slicePicked y ql qu none=slicePicked y (l.map λi=>(i,0)) (u.map λi=>(i,0)) none:=by
    delta slicePicked;refine eW ql'<|eW qu' ?_;induction l using aA<;>induction u using aA<;>rfl
   unfold vh sliceMade at IK
   show(sliceMade y t ql qu none).post (PE C G O s (.fv (.str (vh y l u))) wl) s;delta sliceMade vh sliceMade;refine eW e1 ?_;split
   . rename_i hc
     exact mj W (by simp only[hc,if_true];exact .str _ _)
   . rename_i hc
     simp only[hc,if_false]at IK⊢;refine⟨?_,eP _ W (.str _ _)⟩;refine eW dp ?_;delta abc;exact ak IK (by decide)
theorem VM{a x:EV}{U5:Tok}{sl:aO}(W:bz C G wl s.heap)(Ra:cE C G O h₀ s.heap v a)
 (eE:s.heap.get? sl=some {cls:=.type "slice",data:=.fields #[.none,.none,.int (-1) U5]})(hs:∀o,subscripted slice false o (.ref sl)=operate [o,.ref sl] (getItem o (.ref sl)))(e:JP a=some x):
 aK C.M A (subscriptTail value slice v (.ref sl)) (PE C G O s x wl) ee s:=by
 refine ob e λxs ha e=>dU e λhz e=>listI W Ra ha λa vs n h1 r1=>sk e ?_
 have IK:=dN hz;refine qi (T:="list") ⟨_,h1,rfl⟩ kG.lookup (Ir ⟨_,h1,rfl,n,rfl⟩ ⟨_,eE,rfl,rfl⟩ .none .none (.int (-1) U5) (by simp) ?_ (by refine eW dp<|eW cj<|eW r1.length ?_;lia)) (hs _);refine l8 _ s.toks rfl W λG' x1 x2=>?_;refine .list (vs:=vs.reverse) (n:=0) ?_ (r1.reverse.mono x1);exact eW x2<|eW (krv_pick ..) rfl
end
theorem o8:∀i<25,∀j<25,(attrName i==attrName j)=(i==j):=by decide+kernel
theorem wx{e:b7}(h:e.key.isStr name=true):getL name (e::i3)=some (some e.val):=by
 unfold getL;exact eW Qh<|eW h rfl
theorem sP{e:b7}{w:aB}(h:e.key.isStr name=false)(q:getL name i3=some (some w)):getL name (e::i3)=some (some w):=by
 unfold getL at q⊢;refine eW Qh<|eW h ?_;induction hf:i3.find? (λx=>x.key.isStr name)using aA with
 |some e'=>rw[hf]at q;exact q
 |none=>rw[hf]at q;simp only at q;split at q<;>cases q
theorem DL{t:Tok}(hi:i<15)(hj:j<15):(Value.str (attrName i) t).isStr (attrName j)=(i==j):=o8 i (by lia) j (by lia)
theorem key_is{e:b7}{t:Tok}(ht:e.key=.str (attrName i) t)(hi:i<15)(hj:j<15)(hb:(i==j)=b):e.key.isStr (attrName j)=b:=ht▸(DL hi hj).trans hb
theorem BU:∀{i3:List b7}{fs:List (Nat×FV)}{j:Nat}{d:FV},j<15->bB C G (i3.map (·.val)) (fs.map (·.2))->KeysAre i3 (fs.map (·.1))->fs.lookup j=some d->
 ∃w,getL (attrName j) i3=some (some w)/\Rep C G w d
 |_,[],_,_,_,_,_,h=>nn h
 |[],_::_,_,_,_,_,h,_=>h.elim
 |e::i3,(i,x)::fs,j,d,hj,r,q,h=>jN q λht hi q'=>xE ht λt ht=>V_ h (λej ex=>⟨e.val,wx (key_is ht hi hj (ej▸beq_self_eq_true _)),ex▸(bB.both r).1⟩)
  λhb h=>bS (BU hj (bB.both r).2 q' h) λw e1 e2=>⟨w,sP (key_is ht hi hj (BEq.comm.trans hb)) e1,e2⟩
theorem sR{x:OF}(hj:j<15)(y:gb C G O h ρ i3 fs)(q:fs.lookup j=some x):
 ∃w,getL (attrName j) i3=some (some w)/\f6 C G O h (ρ (j+2)) w x:=
 y.ind (P:=λi3 fs=>fs.lookup j=some x->∃w,getL (attrName j) i3=some (some w)/\f6 C G O h (ρ (j+2)) w x) (λh=>nn h)
  (λe _ _ _ ht hi a _ ih h=>xE ht λt ht=>V_ h (λej ex=>⟨e.val,wx (key_is ht hi hj (ej▸beq_self_eq_true _)),ej▸ex▸a⟩)
    λhb h=>bS (ih h) λw e1 e2=>⟨w,sP (key_is ht hi hj (BEq.comm.trans hb)) e1,e2⟩) q
theorem wq(h:Rep C G v d):handedIn v=true:=Rep.casesOn (motive_1:=λv _ _=>handedIn v=true) h rfl (λ_=>rfl) (λ_ _=>rfl) (λ_ _=>rfl) (λ_ _=>rfl) (λ_ _=>rfl) (λ_ _ _ _ _=>rfl) (λ_ _=>rfl) (λ_ _ _ _ _=>rfl) (λ_=>rfl) (λ_ _ _ _ _=>rfl) (λ_=>rfl) (λ_=>rfl)
theorem BQ{o:OB}(x:dI C G O h r v o):handedIn v=true:=bS x λa e _=>e▸rfl
theorem QF(B:Base C)(W:bz C G wl s.heap):C.K.In s.heap:=λa o e=>W.sub _ _ (W.base _ _ (B.QF a o e))
theorem OR{e x:EV}(hk:k<15)(W:bz C G wl s.heap)(R:cE C G O h₀ s.heap v e)(h:mr e k=some x):
 ∃a c d i3 n w,v=.ref a/\(CT c).isSome=true/\InstAt s.heap a (instObj c d) c (some (dictOf i3 n))/\getL (attrName k) i3=some (some w)/\handedIn w=true/\cE C G O s.heap s.heap w x:=by
 refine(EV.Ad (P:=λe=>cE C G O h₀ s.heap v e->_) h (λd h R=>ob h λx' h1 h=>om h λd' e1=>(FV.rO (P:=λd=>Rep C G v d->_) h1 λR=>?_) R) λt h R=>ob h λcf h1 h=>om h λf e1=>xE R λρ R=>(OT.rO (P:=λt=>dM C G O s.heap (λk=>some (ρ k)) v t->_) h1 λR=>?_) R) R
 . exact m8 R.inv λa dx i3 n hv q=>kI q λz a b r q=>bS (BU hk r q e1) λw e2 r2=>⟨_,_,_,_,_,w,hv,z,⟨W.sub _ _ a,rfl,rfl,W.sub _ _ b⟩,e2,wq r2,r2⟩
 . exact xA R λhc R=>jE R λa d i3 n R=>iQ R λhv _ _ _ h1 R=>uC R λ_ _ _ _ h2 q _=>bS (sR hk q e1) λw e2 r2=>match f,r2 with
    |.fv d',r2=>⟨_,_,_,_,_,w,hv,hc,⟨h1,rfl,rfl,h2⟩,e2,wq r2,r2⟩
    |.ob o,r2=>⟨_,_,_,_,_,w,hv,hc,⟨h1,rfl,rfl,h2⟩,e2,BQ r2,λ_=>ρ (k+2),r2⟩
theorem Sq{e x:EV}{expr:Bool}(B:Base C)(hk:k<15)(W:bz C G wl s.heap)(R:cE C G O h₀ s.heap v e)(h:mr e k=some x):
 aK C.M A (getAttr v (attrName k) expr) (PE C G O s x wl) ee s:=
 jE (OR hk W R h) λa c d i3 h=>I9 h λn w e hc I e2 hh r2=>e▸jN (B.wM c hc) λg1 g2 g3=>bS (B.z8 c k hc hk) λattr ha hn=>
  get_value (QF B W) I g1 (findObj_own g3 ha hn e2) hh (eP _ W r2)
theorem Cj{o:af}{attr:bA}{whole:Sem aB}{M:Model}(hn:mJ o=true)(h:aK M A whole Q E s):aK M A (attributeBase o attr env whole) Q E s:=by
 induction o using bF with
 |Call f a k p=>
  induction f using bF with
  |Name id q=>induction a using bP with
   |nil=>induction k using bP with
    |nil=>
     have e:(!(id==("super":bA)&&true&&true))=true:=hn;rw[m7,m7]at e
     have e2:attributeBase (.Call (.Name id q) [] [] p) attr env whole=whole:=if_pos (by exact eW (show(id !=("super":bA))=true from e) rfl);exact eW e2<|h
    |cons _ _=>exact h
   |cons _ _=>exact h
  |_=>exact h
 |_=>exact h
theorem Lx{attr:bA}{pos:dK}(hn:mJ value=true)
 (h:aK C.M A (eval value env) (λo aM=>aK C.M A (getAttr o attr true) Q E aM) E s):aK C.M A (eval (.Attribute value attr pos) env) Q E s:=by
 show aK C.M A (do
  let o<-attributeBase value attr env (eval value env)
  standAt pos.atName
  let r<-holding [o] (getAttr o attr true)
  letTemporaryGo value o r
  pure r) Q E s
 refine ai (dQ (Cj hn h) (λo aM km=>?_) λ_ _ q=>q);refine ai (cc (ai (bM (dQ km (λr b0 wj=>?_) λ_ _ q=>q))));exact ai (wpAny_letTemporaryGo (ar wj))
section
variable
 {r':Option Role}{M7:Nat->Option Role}
theorem dI.relabel{o:OB}(q:∀a,O a=r->O' a=r')(x:dI C G O h r v o):dI C G O' h r' v o:=dT x λa h1 h2 h3=>⟨a,h1,q a h2,h3⟩
theorem gw.relabel(q:∀a k,O a=ρ k->O' a=M7 k)(y:gw C G O h ρ k vs iG):gw C G O' h M7 k vs iG:=y.ind (λ_=>trivial) λk _ _ _ _ a _ ih=>⟨a.relabel (q · k),ih⟩
theorem f6.relabel{o:OF}(q:∀a,O a=r->O' a=r')(x:f6 C G O h r v o):f6 C G O' h r' v o:=match o,x with
 |.fv d,x=>x
 |.ob o,x=>dI.relabel q x
theorem gb.relabel(q:∀a k,O a=ρ k->O' a=M7 k){es:List b7}(y:gb C G O h ρ es fs):gb C G O' h M7 es fs:=y.ind trivial λ_ _ _ _ a b c _ ih=>⟨a,b,c.relabel (q · _),ih⟩
theorem dM.relabel(q:∀a k,O a=ρ k->O' a=M7 k)(y:dM C G O h ρ v t):dM C G O' h M7 v t:=match t,y with
 |.ob o,y=>dI.relabel (q · 0) y
 |.gu iG,y=>j8 y λa vs n hv y=>kI y λhO h1 h2 h3 h4=>⟨a,vs,n,hv,q _ _ hO,h1,h2,h3,h4.relabel q⟩
 |.inst c fs,y=>xA y λhc y=>jE y λa d i3 n y=>iQ y λhv hO h1 h2 h3 y=>kI y λuP h4 h5 h6 y=>⟨hc,a,d,i3,n,hv,q _ _ hO,h1,h2,h3,q _ _ uP,h4,h5,h6,y.1,y.2.1.relabel q,y.2.2⟩
def nW(C:Cx)(G:Gh)(O bq:aO->Option Role)(h:eu)(i:Nat)(v:aB):EV->Prop
 |.fv d=>Rep C G v d
 |.bor t=>∃ρ:Nat->Role,dM C G O h (λk=>some (ρ k)) v t
 |.own t=>dM C G bq h (λk=>some (.own i k)) v t
def dB(C:Cx)(G:Gh)(O bq:aO->Option Role)(h:eu):Nat->List aB->List EV->Prop
 |_,[],[]=>True
 |i,v::vs,e::es=>nW C G O bq h i v e/\dB C G O bq h (i+1) vs es
 |_,_,_=>False
@[elab_as_elim] theorem dB.ind{P:Nat->List aB->List EV->Prop}{es:List EV}(y:dB C G O bq h i vs es)(h0:∀i,P i [] [])
   (h1:∀i v vs e es,nW C G O bq h i v e->dB C G O bq h (i+1) vs es->P (i+1) vs es->P i (v::vs) (e::es)):P i vs es:=
  l2 (P:=λvs es=>∀i,dB C G O bq h i vs es->P i vs es) vs es (λi _=>h0 i) (λv vs e es ih i y=>h1 i v vs e es y.1 y.2 (ih (i+1) y.2)) (λ_ _ _ y=>dV y) (λ_ _ _ y=>dV y) i y
@[elab_as_elim] theorem Xs{P:List aB->Prop}{e:EV}(y:dB C G O bq h i vs [e])(k:∀v,nW C G O bq h i v e->P [v]):P vs:=
  vs.casesOn (motive:=λvs=>dB C G O bq h i vs [e]->P vs) (λy=>dV y) (λv r=>r.casesOn (motive:=λr=>dB C G O bq h i (v::r) [e]->P (v::r)) (λy=>k v y.1) λ_ _ y=>dV y.2) y
def nV(C:Cx)(G:Gh)(h₀ h:eu)(i:Nat)(bq:aO->Option Role):Prop:=
 ∀a r,bq a=some r->h₀.get? a=none/\(∃j k,r=.own j k/\i<=j/\k≠n3)/\G.F a=none/\eQ C G a/\∃o,h.get? a=some o
def Cv(C:Cx)(G:Gh)(h₀ h:eu)(bq:aO->Option Role):Prop:=
 ∀a r,bq a=some r->h₀.get? a=none/\(∃j k,r=.own j k)/\G.F a=none/\eQ C G a/\∃o,h.get? a=some o
theorem nV.w(m:nV C G h₀ h i bq):Cv C G h₀ h bq:=λa r e=>jN (m a r e) λq1 q2 q3=>⟨q1,gg q2 λj k q _=>⟨j,k,q⟩,q3⟩
def u7(C:Cx)(G:Gh)(O:aO->Option Role)(h₀ h:eu)(i:Nat)(vs:List aB)(es:List EV):Prop:=
 ∃bq,nV C G h₀ h i bq/\dB C G O bq h i vs es
theorem u7.nil:u7 C G O h₀ h i [] []:=⟨λ_=>none,λ_ _ e=>(nomatch e),trivial⟩
theorem nW.relabel{nU:aO->Option Role}{e:EV}(q:∀a k,bq a=some (.own i k)->nU a=some (.own j k))(x:nW C G O bq h i v e):nW C G O nU h j v e:=match e,x with
 |.fv _,x=>x
 |.bor _,x=>x
 |.own _,x=>dM.relabel q x
theorem dB.relabel{nU:aO->Option Role}{es:List EV}(q:∀a j k,i<=j->bq a=some (.own j k)->nU a=some (.own j k))(y:dB C G O bq h i vs es):dB C G O nU h i vs es:=
 y.ind (P:=λi vs es=>(∀a j k,i<=j->bq a=some (.own j k)->nU a=some (.own j k))->dB C G O nU h i vs es) (λ_ _=>trivial) (λi _ _ _ _ x _ ih q=>⟨x.relabel λa k e=>q a i k (aT _) e,ih λa j k hj e=>q a j k (fN hj) e⟩) q
theorem nV.vy(k:∀a o,h₀.get? a=some o->∃o',km.get? a=some o')(y:nV C G km h i bq):nV C G h₀ h i bq:=λa r e=>⟨none_of (k a) (y a r e).1,(y a r e).2⟩
theorem nV.less(l:j<=i)(y:nV C G h₀ h i bq):nV C G h₀ h j bq:=λa r e=>⟨(y a r e).1,cO (y a r e).2.1 λn k q1 q2 q3=>⟨n,k,q1,ak l q2,q3⟩,(y a r e).2.2⟩
noncomputable def A'(bq nU:aO->Option Role)(i:Nat)(a:aO):Option Role:=(nU a).elim (bq a) λr=>match r with
 |.own _ k=>some (.own i k)
 |r=>some r
theorem u7.cons{es:List EV}{e:EV}(H:cE C G O h₀ h v e)(al:∀a o,h₀.get? a=some o->∃o',km.get? a=some o')
 (hm:∀bq:aO->Option Role,(∀a r,bq a=some r->km.get? a=none)->∀t,e=.own t->∃nU:aO->Option Role,(∀a r,nU a=some r->bq a=none/\h₀.get? a=none/\(∃k,r=.own 0 k/\k≠n3)/\G.F a=none/\eQ C G a/\∃o,h.get? a=some o)/\dM C G nU h (λk=>some (.own 0 k)) v t)
 (T:u7 C G O km h (i+1) vs es):u7 C G O h₀ h i (v::vs) (e::es):=bS T λbq m x=>match e,H,hm with
 |.fv d,H,_=>⟨bq,(m.vy al).less (ip i),H,x⟩
 |.bor t,H,_=>⟨bq,(m.vy al).less (ip i),H,x⟩
 |.own t,H,hm=>bS (hm bq (λa r e=>(m a r e).1) t rfl) λnU p y=>⟨A' bq nU i,λa r e=>by
   unfold A' at e;induction e2:nU a using aA with
   |none=>rw[e2]at e;exact(m.vy al).less (ip i) a r e
   |some r'=>
    rw[e2]at e;exact fA (p a r' e2) λ_ q1 q2 q4=>bS q2 λk q2 q3=>by subst q2;exact sk e ⟨q1,⟨i,k,rfl,aT _,q3⟩,q4⟩,
  dM.relabel (O':=A' bq nU i) (M7:=λk=>some (.own i k)) (λa k e=>by unfold A';exact eW e rfl) y,dB.relabel (λa j k hj e=>by
   unfold A';induction q:nU a using aA with
   |none=>exact e
   |some r=>exact gone (p a r q).1 e) x⟩
theorem dB.xS{es:List EV}(y:dB C G O bq h i vs es)(e:xS es=some ds):bB C G vs ds:=
 y.ind (P:=λ_ vs es=>∀ds,Mine.xS es=some ds->bB C G vs ds) (λ_ ds e=>sk (P:=λds=>bB C G [] ds) e .nil) (λi v _ _ _ x _ ih _ q=>ob q λd h1 q=>om q λds' q1=>.cons ((eg (P:=λe=>nW C G O bq h i v e->Rep C G v d) h1 λx=>x) x) (ih _ q1)) _ e
structure Here(C:Cx)(G:Gh)(O:aO->Option Role)(sc:Sc)(ns:List bA)(env:ra)(fr:List Slot)(wl:WL)(k:Nat)(A:fF)(s:aN):Prop where
 base:Base C
 room:Mo k sc.lv A
 W:bz C G wl s.heap
 F:cL C G O sc ns env fr s.heap
theorem Here.step(H:Here C G O sc ns env fr wl k A s)(x:Step C G G' s s')(W:bz C G' bQ s'.heap):Here C G' O sc ns env fr bQ k A s':=⟨H.base,H.room,W,H.F.step x⟩
def T8(C:Cx)(bp:my)(k:Nat)(sc:Sc)(ns:List bA)(e:af)(ir:IE):Prop:=
 ∀(G:Gh)(O:aO->Option Role)(env:ra)(A:fF)(s:aN)(fr:List Slot)(wl:WL)(x:EV)(bQ:WL),ev bp ir fr wl=some (x,bQ)->Here C G O sc ns env fr wl k A s->
  aK C.M A (eval e env) (PE C G O s x bQ) ee s
def PB(C:Cx)(G:Gh)(s:aN)(b:Bool)(wl:WL)(r:Bool)(s':aN):Prop:=r=b/\∃G',Step C G G' s s'/\bz C G' wl s'.heap
theorem PB.after{r:Bool}(x:Step C G G' s s')(y:PB C G' s' b wl r qo):PB C G s b wl r qo:=RJ y λh1 G2 h2 h3=>⟨h1,G2,x.trans h2,h3⟩
def aa3(C:Cx)(bp:my)(k:Nat)(sc:Sc)(ns:List bA)(e:af)(ir:IE):Prop:=
 ∀(G:Gh)(O:aO->Option Role)(env:ra)(A:fF)(s:aN)(fr:List Slot)(wl:WL)(b:Bool)(bQ:WL),eK bp ir fr wl=some (b,bQ)->Here C G O sc ns env fr wl k A s->
  aK C.M A (isTrue e env (eval e env)) (PB C G s b bQ) ee s
noncomputable def notStar(e:af):Bool:= !c5 e.ctorIdx 22
structure dS(C:Cx)(bp:my)(k:Nat)(sc:Sc)(ns:List bA)(e:af)(ir:IE):Prop where
 v:T8 C bp k sc ns e ir
 t:aa3 C bp k sc ns e ir
 star:notStar e=true
theorem PE.go{e:EV}{t:Sem aB}{α:Type}{f:aB->Sem α}{Q:α->aN->Prop}(h:aK C.M A t (PE C G O s e wl) ee s)(k:∀v aM G1,Step C G G1 s aM->bz C G1 wl aM.heap->cE C G1 O s.heap aM.heap v e->aK C.M A (f v) Q E aM):aK C.M A (t>>=f) Q E s:=
 ai (cX h λv aM h=>dT h λG1 x W R=>k v aM G1 x W R)
theorem PE.to{e:EV}{t:Sem aB}(h:aK C.M A t (PE C G O s e wl) ee s)(k:∀v aM G1,Step C G G1 s aM->bz C G1 wl aM.heap->cE C G1 O s.heap aM.heap v e->Q v aM):aK C.M A t Q E s:=
 cX h λv aM h=>dT h λG1 x W R=>k v aM G1 x W R
theorem dS.mk'(h:T8 C bp k sc ns e ir)(he:∀env whole,isTrue e env whole=(do let v<-whole;standAt e.pos;holding [v] (truthy v)))
 (hi:∀fr wl,eK bp ir fr wl=(ev bp ir fr wl).bind λx=>(iR x.1).map λb=>(b,x.2))(hs:notStar e=true):dS C bp k sc ns e ir:=
 ⟨h,λG O env A s fr wl b bQ q H=>f9 ((hi fr wl).symm.trans q) λx wl1 q1 q2=>tM q2 λb' q2=>by
   exact eW (he ..)<|PE.go (h G O env A s fr wl x _ q1 H) λv aM G1 x1 W1 R1=>ai (cc (bM (uG W1 R1 q2 λtk=>⟨rfl,G1,x1.trans (.tok C G1 aM tk),W1⟩))),hs⟩
theorem dS.run{a:IE}{x:EV}(ha:dS C bp k sc ns e a)(H:Here C G O sc ns env fr wl k A s)(q:ev bp a fr wl=some (x,bQ))
 (g:∀v aM G1,Step C G G1 s aM->Here C G1 O sc ns env fr bQ k A aM->cE C G1 O s.heap aM.heap v x->Q v aM):aK C.M A (eval e env) Q E s:=
 PE.to (ha.v G O env A s fr wl x bQ q H) λv aM G1 x1 W1 R1=>g v aM G1 x1 (H.step x1 W1) R1
theorem dS.C5{a:IE}{Q:Bool->aN->Prop}(ha:dS C bp k sc ns e a)(H:Here C G O sc ns env fr wl k A s)(q:eK bp a fr wl=some (b,bQ))
 (g:∀aM G1,Step C G G1 s aM->Here C G1 O sc ns env fr bQ k A aM->Q b aM):aK C.M A (isTrue e env (eval e env)) Q E s:=
 cX (ha.t G O env A s fr wl b bQ q H) λr aM h=>RJ h λe G1 x1 W1=>e▸g aM G1 x1 (H.step x1 W1)
theorem PE.back{e:EV}{t:Sem aB}(x:Step C G G' s s')(h:aK C.M A t (PE C G' O s' e wl) ee b0):aK C.M A t (PE C G O s e wl) ee b0:=cX h λ_ _ h=>h.after x
theorem PB.back{t:Sem Bool}(x:Step C G G' s s')(h:aK C.M A t (PB C G' s' b wl) ee b0):aK C.M A t (PB C G s b wl) ee b0:=cX h λ_ _ h=>h.after x
theorem uL(H:Here C G O sc ns env fr wl k A s):s.heap.Ns bU C.mg:=H.base.g.at' λ_ e=>H.W.sub _ _ (H.W.base _ _ e)
theorem Bj(H:Here C G O sc ns env fr wl k A s):s.heap.Ns dz C.mb:=H.base.b.at' λ_ e=>H.W.sub _ _ (H.W.base _ _ e)
theorem AV{x:EV}(S:cV C G O s.heap i sl ov)(h:sl.GX=some x):∃v,ov=some v/\cE C G O s.heap s.heap v x:=match sl,S,h with
 |.unset,_,h=>nn h
 |.val d,S,h=>sk h S
 |.own t,S,h=>bS S λv e q=>sk h ⟨v,e,λk=>.own i k,q⟩
 |.ro d,S,h=>sk h S
 |.bor t,S,h=>bS S λv e q=>sk h ⟨v,e,λ_=>.ki,q⟩
theorem Kx{e:EV}(hx:ns[i]?=some x)(hc:(x==("__classdict__":bA))=false)(F:cL C G O sc ns env fr s.heap)(hs:fr[i]?=some sl)(he:sl.GX=some e):
 ∃v,cE C G O s.heap s.heap v e/\∀(M:Model)(A:fF)(Q:aB->aN->Prop)(E:aB->aN->Prop),Q v s->aK M A (loadName env x) Q E s:=
 if hk:env.kindOf x=some .local then bS F.loc λm hm q=>bS (AV (q i x sl hx hs hk) he) λv e1 r1=>⟨v,r1,λM A Q E hQ=>P' F.fn hk hm e1 hQ⟩
 else xA (F.p9 i x sl hx hs hk) λsO q=>iP q λc ov e1 e2 e3 _=>bS (AV e3 he) λv ev r1=>⟨v,r1,λM A Q E hQ=>sO.elim (λsO=>Rk F.fn sO e1 (ev▸e2) hQ) λsO=>Rg F.fn sO e1 (ev▸e2) hQ hc⟩
theorem Qr{pos:dK}(hx:ns[i]?=some x)(hd:(x==("__debug__":bA))=false)(hc:(x==("__classdict__":bA))=false):dS C bp k sc ns (.Name x pos) (.var i):=
 .mk' (λG O env A s fr wl e bQ q H=>ob (fi.symm.trans q) λsl hs q=>tM q λe' q1=>bS (Kx hx hc H.F hs q1) λv r1 hl=>qN (hl _ _ _ _ (mj H.W r1)) hd) (λ_ _=>rfl) (λ_ _=>dg rfl) rfl
theorem Vj{c:Const}{n:Nat}{pos:dK}(hc:uW c=some d):dS C bp k sc ns (.Constant c n pos) (.lit d):=
 .mk' (λG O env A s fr wl e bQ q H=>sp q<|match c,hc with
  |.none,hc=>sk hc (ar (mj (e:=.fv _) H.W .none))
  |.bool b,hc=>sk hc (ar (mj (e:=.fv _) H.W (.bool b)))
  |.int i,hc=>sk hc (Ue (eP (e:=.fv _) _ H.W (.int i _)))
  |.str x,hc=>sk hc (Calls.Constant_str (eP (e:=.fv _) _ H.W (.str x _)))
  |.float _,hc=>nn hc
  |.complex _ _,hc=>nn hc
  |.bytes _,hc=>nn hc
  |.ellipsis,hc=>nn hc) (λ_ _=>rfl) (λ_ _=>dg rfl) rfl
theorem Tu(h:K6 x d=true):GT.lookup x=some d:=oS h λe h=>congrArg some (sr d e h).symm
theorem Vn{pos:dK}(hx:sc.s.names.lookup x=some .globalImplicit)(hg:K6 x d=true)(hd:(x==("__debug__":bA))=false):dS C bp k sc ns (.Name x pos) (.bc d):=
 .mk' (λG O env A s fr wl e bQ q H=>sp q<|bS (H.base.gt x d (Tu hg)) λv h1 h2=>
  x_ H.F.fn (H.F.gl x hx) (Calls.loadGlobal_global (by exact eW H.F.glob<|uL H) h1 (mj (e:=.fv d) H.W (h2 _ H.W.base))) hd) (λ_ _=>rfl) (λ_ _=>dg rfl) rfl
theorem Vq{l r:af}{op:Operator}{pos:dK}{a b:IE}(ha:dS C bp k sc ns l a)(hb:dS C bp k sc ns r b):dS C bp k sc ns (.BinOp l op r pos) (.bin op a b):=
 .mk' (λG O env A s fr wl e bQ q H=>f9 (Lu.symm.trans q) λx w1 q1 q=>f9 q λy w2 q2 q=>tM q λz q3=>
  wpAny_BinOp (PE.to (ha.v G O env A s fr wl x w1 q1 H) λv aM G1 x1 W1 R1=>PE.to (hb.v G1 O env A aM fr w1 y w2 q2 (H.step x1 W1)) λu b0 G2 x2 W2 R2=>
   cX (VR W2 (R1.step x2) R2 q3) λv et h=>h.after (x1.trans x2))) (λ_ _=>rfl) (λ_ _=>dg rfl) rfl
theorem Zn{op:UnaryOp}{pos:dK}{a:IE}(ha:dS C bp k sc ns e a):dS C bp k sc ns (.UnaryOp op e pos) (.un op a):=
 have hE:T8 C bp k sc ns (.UnaryOp op e pos) (.un op a):=λG O env A s fr wl r bQ q H=>f9 (Q1.symm.trans q) λx w1 q1 q=>tM q λz q3=>
  PE.go (f:=λv=>do standAt pos;holding [v] (unaryOp op v)) (ha.v G O env A s fr wl x w1 q1 H) λv aM G1 x1 W1 R1=>ai (cc (bM (cX (ZC W1 R1 q3) λv et h=>h.after x1)))
 match op,hE with
 |.Not,hE=>⟨hE,λG O env A s fr wl b bQ q H=>Yn (P:=λy=>y=(b,bQ)->aK C.M A (isTrue (.UnaryOp .Not e pos) env (eval (.UnaryOp .Not e pos) env)) (PB C G s b bQ) ee s) (F7.symm.trans q) (λb' w1 q1 e=>pk e
   (ai (f:=λr=>pure !r) (cX (ha.t G O env A s fr wl b' w1 q1 H) λr aM h=>ar ⟨congrArg (!·) h.1,h.2⟩))) rfl,rfl⟩
 |.USub,hE=>.mk' hE (λ_ _=>rfl) (λ_ _=>dg rfl) rfl
 |.UAdd,hE=>.mk' hE (λ_ _=>rfl) (λ_ _=>dg rfl) rfl
 |.Invert,hE=>.mk' hE (λ_ _=>rfl) (λ_ _=>dg rfl) rfl
end
def fO(P:af->IE->Prop):List af->IL->Prop
 |[],.nil=>True
 |e::es,.cons a r=>P e a/\fO P es r
 |_,_=>False
@[elab_as_elim] theorem fO.ind{R:af->IE->Prop}{P:List af->IL->Prop}(L:fO R es il)(h0:P [] .nil)(h1:∀e es a il,R e a->fO R es il->P es il->P (e::es) (.cons a il)):P es il:=
  ub (motive:=λes=>∀il,fO R es il->P es il) (λil=>IL.casesOn (motive_2:=λil=>fO R [] il->P [] il) il (λ_=>h0) λ_ _ L=>dV L)
   (λe es ih il=>IL.casesOn (motive_2:=λil=>fO R (e::es) il->P (e::es) il) il (λL=>dV L) λa il L=>h1 e es a il L.1 L.2 (ih il L.2)) es il L
@[elab_as_elim] theorem fO.cases{R:af->IE->Prop}{P:List af->IL->Prop}(L:fO R es il)(h0:P [] .nil)(h1:∀e es a il,R e a->fO R es il->P (e::es) (.cons a il)):P es il:=L.ind h0 λe es a il x y _=>h1 e es a il x y
def PL(C:Cx)(G:Gh)(O:aO->Option Role)(s:aN)(i:Nat)(xs:List EV)(wl:WL)(vs:List aB)(s':aN):Prop:=
 ∃G',Step C G G' s s'/\bz C G' wl s'.heap/\u7 C G' O s.heap s'.heap i vs xs
theorem B1{es:List EV}{e:EV}(x1:Step C G G1 s aM)(R:cE C G1 O s.heap aM.heap v e)(x2:Step C G1 G2 aM b0)
 (T:u7 C G2 O aM.heap b0.heap (i+1) vs es):u7 C G2 O s.heap b0.heap i (v::vs) (e::es):=
 u7.cons (R.step x2) (λa o q=>x1.alive a o q) (λbq h1 t ht=>by
  subst ht;exact bS R λnU p y=>⟨nU,λa r e=>ng (p a r e) λq1 q2 q3 q4 o q5=>⟨none_of (y:=(none:Option Role)) (λr' q=>gone (h1 a r' q) q5) rfl,q1,q2,x2.Aq q3 q5,x2.free q4 q5,o,x2.keep _ _ q4 q5⟩,y.step x2⟩) T
theorem mG(h:notStar e=true):starEach (e::es) env=(false,eval e env)::starEach es env:=by
 induction e using bF<;>first|rfl|exact ff h
theorem qz(L:fO (dS C bp k sc ns) es il):∀(G:Gh)(O:aO->Option Role)(env:ra)(A:fF)(s:aN)(fr:List Slot)(wl:WL)(xs:List EV)(bQ:WL)(pos:dK)(i:Nat),
 ox bp il fr wl=some (xs,bQ)->Here C G O sc ns env fr wl k A s->aK C.M A (spliced (backTo pos (starEach es env))) (PL C G O s i xs bQ) ee s:=
 L.ind (λG O env A s fr wl xs bQ pos i q H=>sp q (mC ⟨G,.refl C G s,H.W,.nil⟩)) λe es a il La _ ih G O env A s fr wl xs bQ pos i q H=>f9 (ku.symm.trans q) λx w1 q1 q=>Yn (P:=λy=>y=(xs,bQ)->_) q (λys w2 q2 e'=>pk e' (by
  exact eW (mG La.star)<|r7 (La.run H q1 λv aM G1 x1 H1 R1=>cX (ih G1 O env A aM fr w1 ys w2 pos (i+1) q2 H1) λvs b0 h=>dT h λG2 x2 W2 R2=>⟨G2,x1.trans x2,W2,B1 x1 R1 x2 R2⟩))) rfl
theorem qG{P:af->IE->Prop}(L:fO P es il){xs:List EV}(q:ox bp il fr wl=some (xs,bQ)):xs.length=es.length:=
 L.ind (P:=λes il=>∀fr wl xs bQ,ox bp il fr wl=some (xs,bQ)->xs.length=es.length) (λ_ _ xs _ q=>sp (P:=λxs _=>xs.length=0) q rfl) (λe es a il _ _ ih fr wl xs bQ q=>f9 (ku.symm.trans q) λx w1 q1 q=>Yn (P:=λy=>y=(xs,bQ)->_) q (λys w2 q2 e'=>pk (P:=λxs _=>xs.length=es.length+1) e' (congrArg (·+1) (ih _ _ _ _ q2))) rfl) fr wl xs bQ q
theorem dB.length{es:List EV}(y:dB C G O bq h i vs es):vs.length=es.length:=y.ind (λ_=>rfl) λ_ _ _ _ _ _ _ ih=>congrArg (·+1) ih
theorem Sd(L:fO (dS C bp k sc ns) es il):∀(G:Gh)(O:aO->Option Role)(env:ra)(A:fF)(s:aN)(fr:List Slot)(wl:WL)(x:EV)(bQ:WL)(pos:dK),
 sT bp il fr wl=some (x,bQ)->Here C G O sc ns env fr wl k A s->aK C.M A (eval (.BoolOp .And es pos) env) (PE C G O s x bQ) ee s:=
 L.ind (λG O env A s fr wl xs bQ pos q H=>nn q) λe es a il La Lr=>Lr.cases (λ_ G O env A s fr wl xs bQ pos q H=>BoolOp_one (La.v G O env A s fr wl xs bQ q H))
  λe' es a' il _ _ ih G O env A s fr wl x bQ pos q H=>f9 (tU.symm.trans q) λy w1 q1 q=>ob q λb q2 q3=>BoolOp_and (La.run H q1 λv aM G1 x1 H1 R1=>uG H1.W R1 q2 λtk=>
   have x2:=Step.tok C G1 aM tk
   bk q3 (λq3=>PE.back (x1.trans x2) (ih G1 O env A {aM with toks:=tk} fr w1 x bQ pos q3 (H1.step x2 H1.W))) λq3=>sp q3 ⟨G1,x1.trans x2,H1.W,R1⟩)
theorem Vg(L:fO (dS C bp k sc ns) es il):∀(G:Gh)(O:aO->Option Role)(env:ra)(A:fF)(s:aN)(fr:List Slot)(wl:WL)(x:EV)(bQ:WL)(pos:dK),
 BY bp il fr wl=some (x,bQ)->Here C G O sc ns env fr wl k A s->aK C.M A (eval (.BoolOp .Or es pos) env) (PE C G O s x bQ) ee s:=
 L.ind (λG O env A s fr wl xs bQ pos q H=>nn q) λe es a il La Lr=>Lr.cases (λ_ G O env A s fr wl xs bQ pos q H=>BoolOp_one (La.v G O env A s fr wl xs bQ q H))
  λe' es a' il _ _ ih G O env A s fr wl x bQ pos q H=>f9 (Ea.symm.trans q) λy w1 q1 q=>ob q λb q2 q3=>BoolOp_or (La.run H q1 λv aM G1 x1 H1 R1=>uG H1.W R1 q2 λtk=>
   have x2:=Step.tok C G1 aM tk
   bk q3 (λq3=>sp q3 ⟨G1,x1.trans x2,H1.W,R1⟩) λq3=>PE.back (x1.trans x2) (ih G1 O env A {aM with toks:=tk} fr w1 x bQ pos q3 (H1.step x2 H1.W)))
theorem Vt(L:fO (dS C bp k sc ns) es il):∀(G:Gh)(O:aO->Option Role)(env:ra)(A:fF)(s:aN)(fr:List Slot)(wl:WL)(b:Bool)(bQ:WL),
 fI bp il fr wl=some (b,bQ)->Here C G O sc ns env fr wl k A s->aK C.M A (allTrue .And es env) (PB C G s b bQ) ee s:=
 L.ind (λG O env A s fr wl b bQ q H=>sp q (ar ⟨rfl,G,.refl C G s,H.W⟩)) λe es a il La _ ih G O env A s fr wl b bQ q H=>f9 (nM.symm.trans q) λc w1 q1 q3=>
  show aK C.M A (do match BoolOp.And,<-isTrue e env (eval e env)with|.And,false=>pure false|.Or,true=>pure true|_,_=>allTrue .And es env) _ _ _ from
  ai (La.C5 H q1 λaM G1 x1 H1=>bk (b:=c) q3 (λq3=>PB.back x1 (ih G1 O env A aM fr w1 b bQ q3 H1)) λq3=>sp q3 (ar ⟨rfl,G1,x1,H1.W⟩))
theorem Vr(L:fO (dS C bp k sc ns) es il):∀(G:Gh)(O:aO->Option Role)(env:ra)(A:fF)(s:aN)(fr:List Slot)(wl:WL)(b:Bool)(bQ:WL),
 qt bp il fr wl=some (b,bQ)->Here C G O sc ns env fr wl k A s->aK C.M A (allTrue .Or es env) (PB C G s b bQ) ee s:=
 L.ind (λG O env A s fr wl b bQ q H=>sp q (ar ⟨rfl,G,.refl C G s,H.W⟩)) λe es a il La _ ih G O env A s fr wl b bQ q H=>f9 (Eb.symm.trans q) λc w1 q1 q3=>
  show aK C.M A (do match BoolOp.Or,<-isTrue e env (eval e env)with|.And,false=>pure false|.Or,true=>pure true|_,_=>allTrue .Or es env) _ _ _ from
  ai (La.C5 H q1 λaM G1 x1 H1=>bk (b:=c) q3 (λq3=>sp q3 (ar ⟨rfl,G1,x1,H1.W⟩)) λq3=>PB.back x1 (ih G1 O env A aM fr w1 b bQ q3 H1))
theorem Vs{pos:dK}(L:fO (dS C bp k sc ns) es il):dS C bp k sc ns (.BoolOp .And es pos) (.ic il):=
 ⟨λG O env A s fr wl x bQ q H=>Sd L G O env A s fr wl x bQ pos q H,λG O env A s fr wl b bQ q H=>Vt L G O env A s fr wl b bQ (BX.symm.trans q) H,rfl⟩
theorem Zo{pos:dK}(L:fO (dS C bp k sc ns) es il):dS C bp k sc ns (.BoolOp .Or es pos) (.uJ il):=
 ⟨λG O env A s fr wl x bQ q H=>Vg L G O env A s fr wl x bQ pos q H,λG O env A s fr wl b bQ q H=>Vr L G O env A s fr wl b bQ (F6.symm.trans q) H,rfl⟩
theorem ny(h:gV e=true):behindInMarks op e=false:=by induction e using bF<;>first|rfl|exact ff h
theorem Vp{l r:af}{pos:dK}{a b:IE}(ha:dS C bp k sc ns l a)(hb:dS C bp k sc ns r b)(hr:gV r=true):dS C bp k sc ns (.Compare l [op] [r] pos) (.cmp op a b):=
 ⟨λG O env A s fr wl e bQ q H=>f9 (z4.symm.trans q) λx w1 q1 q=>f9 q λy w2 q2 q=>tM q λz q3=>
   wpAny_Compare1 (ha.run H q1 λv aM G1 x1 H1 R1=>hb.run H1 q2 λu b0 G2 x2 H2 R2=>yp H.room H2.W (R1.step x2) R2 q3 λtk=>(eP (e:=.fv (.bool _)) tk H2.W (Rep.bool _)).after (x1.trans x2)) (ny hr),
  λG O env A s fr wl e bQ q H=>f9 (Pp.symm.trans q) λx w1 q1 q=>f9 q λy w2 q2 q=>tM q λz q3=>by
   refine eW (isTrue_Compare1 ..) ?_;refine ai (ha.run H q1 λv aM G1 x1 H1 R1=>?_);exact eW (markedBehindIn_of_false (ny hr))<|ai (bM (hb.run H1 q2 λu b0 G2 x2 H2 R2=>ai (cc (ai (wpAny_operate' (yp H.room H2.W (R1.step x2) R2 q3 λtk=>
    bM (kE ⟨rfl,G2,(x1.trans x2).trans (.tok C G2 b0 tk),H2.W⟩)))))))
   ,rfl⟩
theorem NI{l r1 r2:af}{pos:dK}{a b c:IE}(ha:dS C bp k sc ns l a)(hb:dS C bp k sc ns r1 b)(hc:dS C bp k sc ns r2 c)(hr:gV r2=true):
 dS C bp k sc ns (.Compare l [o1,o2] [r1,r2] pos) (.chain o1 o2 a b c):=
 ⟨λG O env A s fr wl e bQ q H=>f9 (BW.symm.trans q) λx w1 q1 q=>f9 q λy w2 q2 q=>ob q λz q3 q4=>
   Compare_chain (ha.run H q1 λv aM G1 x1 H1 R1=>chain_link (hb.run H1 q2 λu b0 G2 x2 H2 R2=>yp H.room H2.W (R1.step x2) R2 q3 λtk=>kE (
    have t2:=Step.tok C G2 b0 tk
    have x3:=(x1.trans x2).trans t2
    match z,q4 with
    |true,q4=>f9 q4 λz w3 q4 q=>tM q λr q5=>chain_last (hc.run (H2.step t2 H2.W) q4 λu' et G3 x4 H3 R3=>yp H.room H3.W ((R2.step t2).step x4) R3 q5 λtk=>(eP (e:=.fv (.bool _)) tk H3.W (Rep.bool _)).after (x3.trans x4))
    |false,q4=>sp q4 ⟨G2,x3,H2.W,.bool _⟩))) (ny hr),
  λG O env A s fr wl e bQ q H=>f9 (yK.symm.trans q) λx w1 q1 q=>f9 q λy w2 q2 q=>ob q λz q3 q4=>
   isTrue_chain (ha.run H q1 λv aM G1 x1 H1 R1=>test_link (hb.run H1 q2 λu b0 G2 x2 H2 R2=>yp H.room H2.W (R1.step x2) R2 q3 λtk=>kE (
    have t2:=Step.tok C G2 b0 tk
    have x3:=(x1.trans x2).trans t2
    match z,q4 with
    |true,q4=>f9 q4 λz w3 q4 q=>tM q λr q5=>test_last (hc.run (H2.step t2 H2.W) q4 λu' et G3 x4 H3 R3=>yp H.room H3.W ((R2.step t2).step x4) R3 q5 λtk=>kE ⟨rfl,G3,(x3.trans x4).trans (.tok C G3 et tk),H3.W⟩)
    |false,q4=>sp q4 ⟨rfl,G2,x3,H2.W⟩))) (ny hr),rfl⟩
theorem Vl{t x y:af}{pos:dK}{a b c:IE}(ht:dS C bp k sc ns t a)(hx:dS C bp k sc ns x b)(hy:dS C bp k sc ns y c):dS C bp k sc ns (.IfExp t x y pos) (.ite a b c):=
 ⟨λG O env A s fr wl e bQ q H=>f9 (D_.symm.trans q) λz w1 q1 q2=>wpAny_IfExp (ht.C5 H q1 λaM G1 x1 H1=>match z,q2 with
   |true,q2=>PE.back x1 (hx.v G1 O env A aM fr w1 e bQ q2 H1)
   |false,q2=>PE.back x1 (hy.v G1 O env A aM fr w1 e bQ q2 H1)),
  λG O env A s fr wl e bQ q H=>f9 (Po.symm.trans q) λz w1 q1 q2=>by
   show aK C.M A (do if<-isTrue t env (eval t env)then isTrue x env (eval x env)else isTrue y env (eval y env)) _ _ _;exact ai (ht.C5 H q1 λaM G1 x1 H1=>match z,q2 with
    |true,q2=>PB.back x1 (hx.t G1 O env A aM fr w1 e bQ q2 H1)
    |false,q2=>PB.back x1 (hy.t G1 O env A aM fr w1 e bQ q2 H1)),rfl⟩
theorem Vm{pos:dK}{a b:IE}(ha:dS C bp k sc ns value a)(hb:dS C bp k sc ns slice b)(hs:gq slice=true):dS C bp k sc ns (.Subscript value slice pos) (.idx a b):=
 .mk' (λG O env A s fr wl e bQ q H=>f9 (Lp.symm.trans q) λx w1 q1 q=>f9 q λy w2 q2 q=>tM q λz q3=>
  EO (ha.run H q1 λv aM G1 x1 H1 R1=>hb.run H1 q2 λu b0 G2 x2 H2 R2=>PE.back (x1.trans x2) (VO hs H2.W (R1.step x2) R2 q3))) (λ_ _=>rfl) (λ_ _=>dg rfl) rfl
theorem Sb{pos:dK}{a:IE}(ha:dS C bp k sc ns value a)(hx:gC[j]?=some x)(hj:j<15)(hn:mJ value=true):dS C bp k sc ns (.Attribute value x pos) (.attr a j):=
 .mk' (λG O env A s fr wl e bQ q H=>f9 (FZ.symm.trans q) λy w1 q1 q=>tM q λz q3=>by
  have WB:x=attrName j:=by unfold attrName;refine eW mf<|eW hx ?_;rfl
  subst WB;exact Lx hn (ha.run H q1 λv aM G1 x1 H1 R1=>PE.back x1 (Sq H.base hj H1.W R1 q3))) (λ_ _=>rfl) (λ_ _=>dg rfl) rfl
theorem hC{o:jX}(hf:o.isFreed=false):(s.heap.push o).get? s.heap.objs.size=some o:=bI _ hf
theorem eI:s.heap.get? s.heap.objs.size=none:=none_of (y:=(none:Option jX)) (λ_ q=>absurd (bb q) (b9 _)) rfl
theorem cQ(o:jX):∀a o',s.heap.get? a=some o'->(s.heap.push o).get? a=some o':=λ_ _ e=>a_ o e
def Cn(C:Cx)(bp:my)(k:Nat)(sc:Sc)(ns:List bA)(e:Option af)(ir:IE):Prop:=
 ∀(G:Gh)(O:aO->Option Role)(env:ra)(A:fF)(s:aN)(fr:List Slot)(wl:WL)(x:EV)(bQ:WL),ev bp ir fr wl=some (x,bQ)->Here C G O sc ns env fr wl k A s->
  aK C.M A (valueOrNone (evalOpt e env)) (PE C G O s x bQ) ee s
theorem Nu:Cn C bp k sc ns none (.lit .none):=λG O env A s fr wl x bQ q H=>sp q (ar (mj (e:=.fv .none) H.W .none))
theorem Cn.run{e:Option af}{a:IE}{x:EV}(ha:Cn C bp k sc ns e a)(H:Here C G O sc ns env fr wl k A s)(q:ev bp a fr wl=some (x,bQ))
 (g:∀v aM G1,Step C G G1 s aM->Here C G1 O sc ns env fr bQ k A aM->cE C G1 O s.heap aM.heap v x->Q v aM):aK C.M A (valueOrNone (evalOpt e env)) Q E s:=
 PE.to (ha G O env A s fr wl x bQ q H) λv aM G1 x1 W1 R1=>g v aM G1 x1 (H.step x1 W1) R1
theorem Nt{a:IE}(h:dS C bp k sc ns e a):Cn C bp k sc ns (some e) a:=h.v
theorem Vc{lo hi:Option af}{pos:dK}{a b c:IE}(ha:dS C bp k sc ns value a)(hb:Cn C bp k sc ns lo b)(hc:Cn C bp k sc ns hi c):
 dS C bp k sc ns (.Subscript value (.Slice lo hi none p) pos) (.xy a b c):=
 .mk' (λG O env A s fr wl e bQ q H=>f9 (Lk.symm.trans q) λx w1 q1 q=>f9 q λy w2 q2 q=>f9 q λz w3 q3 q=>tM q λr q4=>EO (ha.run H q1 λv aM G1 x1 H1 R1=>by
  refine eW (aba ..) ?_;refine ai (hb.run H1 q2 λvl b0 G2 x2 H2 R2=>ai (bM (hc.run H2 q3 λvu et G3 x3 H3 R3=>ai (bM (ar (kF ?_ (by size_fits)))))))
  have x4:Step C G3 G3 et {et with heap:=et.heap.push {cls:=.type "slice",dict:=none,data:=.fields #[vl,vu,.none]}}:=.grow _ _ (cQ _);exact PE.back (((x1.trans x2).trans x3).trans x4) (VL (H3.W.grow (cQ _)) (((R1.step x2).step x3).step x4) ((R2.step x3).step x4) (R3.step x4) (hC rfl) (λo=>rfl) q4))) (λ_ _=>rfl) (λ_ _=>dg rfl) rfl
theorem Ve{n:Nat}{p1 p2 p3 pos:dK}{a:IE}(ha:dS C bp k sc ns value a):dS C bp k sc ns (.Subscript value (.Slice none none (some (.UnaryOp .USub (.Constant (.int 1) n p1) p2)) p3) pos) (.rev a):=
 .mk' (λG O env A s fr wl e bQ q H=>f9 (Lm.symm.trans q) λx w1 q1 q=>tM q λr q4=>EO (ha.run H q1 λv aM G1 x1 H1 R1=>by
  refine eW (aba ..) ?_;refine ai (ar (ai (bM (ar (ai (bM ?_))))))
  show aK C.M A (do let v<-eval (.Constant (.int 1) n p1) env;standAt p2;holding [v] (unaryOp .USub v)) _ _ _;refine ai (Ue (ai (cc (bM (xu (kF ?_ (by size_fits)))))))
  have x4:Step C G1 G1 {aM with toks:=aM.toks+1+1} {aM with toks:=aM.toks+1+1,heap:=aM.heap.push {cls:=.type "slice",dict:=none,data:=.fields #[.none,.none,.int (-1) (aM.toks+1)]}}:=.grow _ _ (cQ _)
  have x2:=(Step.tok C G1 aM (aM.toks+1+1)).trans x4;exact PE.back (x1.trans x2) (VM (H1.W.grow (cQ _)) (R1.step x2) (hC rfl) (λo=>rfl) q4))) (λ_ _=>rfl) (λ_ _=>dg rfl) rfl
def DE(m h:Nat):Bool:=decide (3<(gj m).size)||match(tabOf m true).freeSlot (h:Int)with
 |some (j,false)=>decide (cw (gj m) (c_ (gj m) j) j=gj (m|||2^j))&&decide (m|||2^j<256)&&decide (c_ (gj m) j<=(gj m).size)
 |_=>false
def KH(q:Nat):Bool:=(ae 64).all λi=>(ae 64).all (DE (64*q+i))
theorem lay0:KH 0=true:=by decide+kernel
theorem ZP:KH 1=true:=by decide+kernel
theorem ZO:KH 2=true:=by decide+kernel
theorem ZN:KH 3=true:=by decide+kernel
theorem We{q:Nat}(h:q<4):KH q=true:=
 (bE.mp h).elim (λh=>(bE.mp h).elim (λh=>(bE.mp h).elim (λh=>Uk.mp h▸lay0) λe=>e▸ZP) λe=>e▸ZO) λe=>e▸ZN
theorem OH{n:Nat}(hm:m<256)(hn:n<64):DE m n=true:=
 Nat.div_add_mod m 64▸aH.mp (aH.mp (We (IF hm)) (m%64) (aC.mpr (pg m (by decide)))) n (aC.mpr hn)
theorem K9{a:Bool}{f:Nat->Int}{h:Int}:∀(n:Nat)(p:SetTable.Probe),iw (tabOf m a) f h n p=iw (tabOf m b) f h n p
 |0,_=>rfl
 |n+1,p=>by
  have adv:∀q,(tabOf m a).advance q=(tabOf m b).advance q:=λ_=>rfl;unfold iw;refine eW (show(tabOf m a).slot p.j=(tabOf m b).slot p.j from rfl) ?_
  have ih:∀q,iw (tabOf m a) f h n q=iw (tabOf m b) f h n q:=K9 n;simp only[adv,ih]
theorem Lc{a:Bool}{h:Int}:(tabOf m a).freeSlot h=(tabOf m b).freeSlot h:=by
 delta SetTable.freeSlot SetTable.probe;rw[show(tabOf m a).mask=(tabOf m b).mask from rfl,show(tabOf m a).probeStart h=(tabOf m b).probeStart h from rfl,K9 (b:=b)]
theorem BJ{α:Type}{es:Array α}{p:Nat}{x:α}:(cw es p x).size=es.size+1:=by delta cw;simp;lia
theorem SV{n:Nat}{led:Bool}{es:Array (Int×aB)}{x:aB}(hm:m<256)(hn:n<64)(hs:(gj m).size<=3)(he:es.size=(gj m).size):
 ∃m' p,m'<256/\p<=es.size/\layNew (tabOf m led) es (n:Int) x=(cw es p ((n:Int),x),tabOf m' led,false,false)/\(gj m').size=(gj m).size+1:=by
 have h1:=OH hm hn;unfold DE at h1;rw[gO,decide_eq_true_eq]at h1;rcases h1 with h1|h1
 . exact absurd hs (Nat.not_le.mpr h1)
 . split at h1
   . rename_i j q
     simp only[bY,decide_eq_true_eq]at h1
     (refine xA h1 ?_;clear h1;intro q1;obtain⟨e1,e2⟩:=q1;intro e3)
     have sz:(gj (m|||2^j)).size=(gj m).size+1:=by
      exact eL e1<|BJ
     have Z5:(tabOf m led).put j=(tabOf (m|||2^j) led,c_ (gj m) j):=by
      delta SetTable.put
      show(({(tabOf m led)with place:=cw (gj m) (c_ (gj m) j) j,dummies:=if MT #[] j then SetTable.eraseAt #[] (c_ #[] j)else#[]}:SetTable),_)=_;exact eW e1<|eW (show MT #[] j=false from rfl) rfl
     have szi:(cw es (c_ (gj m) j) ((n:Int),x)).size=(gj (m|||2^j)).size:=by
      exact eW sz<|eL he<|BJ
     have Tn:(tabOf (m|||2^j) led).fits (cw es (c_ (gj m) j) ((n:Int),x)).size=true:=by
      delta qa xr;refine eW szi ?_
      show((gj (m|||2^j)).size==(gj (m|||2^j)).size&&decide ((gj (m|||2^j)).size+0<=7))=true;exact eW sz<|qy.mpr ⟨beq_self_eq_true _,decide_eq_true (ak (cB hs) (by decide))⟩
     refine⟨m|||2^j,c_ (gj m) j,e2,he▸e3,?_,sz⟩;delta layNew;refine eW (Lc (b:=true))<|eW q ?_;dsimp only;refine eW Z5 ?_;dsimp only;delta SetTable.orStandIn;exact eW Tn rfl
   . exact ff h1
theorem D7{n:Nat}(hn:n<64):hashInt (n:Int)=(n:Int):=by
 have:((ae 64).all λn=>decide (hashInt (n:Int)=(n:Int)))=true:=by decide+kernel
 exact of_decide_eq_true (aH.mp this n (aC.mpr hn))
theorem yY{xs:List Int}{n:Nat}{t:Tok}{Q:Bool->aN->Prop}(hS:s.heap.SetOf (ik C) a (λj=>xs.contains j) xs.length)(sm:mc C.w s.heap a)(hl:xs.length<4)(hn:n<64)
 (h:∀b h',cS a s.heap h'->h'.SetOf (ik C) a (λj=>(jv xs n).contains j) (jv xs n).length->mc C.w h' a->Q b {s with heap:=h',toks:=s.toks+1}):
 aK C.M A (setAdd a (.int n t)) Q E s:=by
 (refine u_ hS ?_;clear hS;intro o es q1;refine iH q1 ?_;clear q1;intro ep T ho hex hd Pd q2;refine fA q2 ?_;clear q2;intro kR hb hf hz)
 (refine u_ sm ?_;clear sm;intro o' YB q3;refine iP q3 ?_;clear q3;intro YC m pZ ui hm IK)
 rw[ho]at pZ;cases pZ;rw[hd]at ui;cases ui
 have Z8:es.size=(gj m).size:=by
  simp only[qa,bY,beq_iff_eq]at hf;exact hf.1.symm
 have wm:(ik C).is (n:Int) (.int n t)=true:=tP n t;unfold setAdd;refine bM (ai ((ik C).pyHash wm ?_))
 show aK _ A (setAddHashed a (.int n t) ((ik C).hash n)) Q E {s with toks:=s.toks+1};unfold setAddHashed setAddHashedIn;refine bM (ai (oy (s:={s with toks:=s.toks+1}) ho hd hf ?_));dsimp only;refine eW (byScan_of (x:=.int n t) rfl hb Pd) ?_;simp only[↓reduceIte];unfold setAddByScan;refine ai (ai (xc (ai (wpAny_setScan_of wm ho hd hf Pd ?_))))
 have hk:=kR n;induction hr:List.findIdx? (λe=>(ik C).is (n:Int) e.2) es.toList using aA with
 |some j=>
  dsimp only
  (refine bS (jz.mp hr) λhj hpj _=>?_)
  have hx:xs.contains (n:Int)=true:=hk.mpr ⟨es.toList[j],M3 hj,hpj⟩
  have ha:jv xs n=xs:=by unfold jv;exact eW (if_pos hx) rfl
  refine ar (ar (h false s.heap (YJ a s.heap) ?_ ⟨o,es,ep,m,ho,hd,hm,IK⟩));exact eW ha<|⟨o,es,ep,_,ho,hex,hd,Pd,kR,hb,hf,hz⟩
 |none=>
  dsimp only
  have hx:xs.contains (n:Int)=false:=by
   induction q:xs.contains (n:Int)using ax with
   |false=>rfl
   |true=>(refine bS (hk.mp q) λe he hp=>?_);have:=List.findIdx?_eq_none_iff.mp hr e he;rw[hp]at this;exact ff this.symm
  have ha:jv xs n=xs++[(n:Int)]:=by unfold jv;rw[if_neg (by rw[hx];exact ay)]
  have hh:(ik C).hash (n:Int)=(n:Int):=D7 hn
  (refine iP (SV (led:=eX C.w) (es:=es) (x:=.int n t) hm hn (by lia) Z8) λm' p UE hp hL yD=>?_)
  have wk:=layNew_perm (tabOf m (eX C.w)) es (n:Int) (.int n t);refine eW hh<|eW hL ?_;rw[hL]at wk;dsimp only at wk⊢;rw[mE]at wk
  have K2:(cw es p ((n:Int),ky n t)).toList.Perm (es.toList++[((ik C).hash (n:Int),ky n t)]):=by exact eW hh<|wk
  have aak:=(Pd.push wm rfl).perm K2
  have WK:=mem_push_iff wm kR K2
  have QK:(cw es p ((n:Int),ky n t)).size=es.size+1:=by
   exact eL bC<|eW wk.length_eq<|eW aJ<|eW bC rfl
  have Tn:(tabOf m' (eX C.w)).fits (cw es p ((n:Int),ky n t)).size=true:=by
   unfold qa xr
   show((gj m').size==_&&decide ((gj m').size+0<=7))=true;refine eW QK<|eW yD<|eW Z8 ?_;simp;lia
  have full:(tabOf m' (eX C.w)).tooFull=false:=by
   unfold SetTable.tooFull xr
   show decide (((gj m').size+0)*5>=7*3)=false;exact eW yD<|decide_eq_false (by lia)
  refine ai (ar ?_);refine eW (show(tabOf m' (eX C.w)).plain=true from rfl)<|eW (if_pos rfl)<|eW (hashByValue_scannable 8 (x:=.int n t) rfl) ?_;refine ai (ar ?_)
  show aK _ _ (storeSet a _ (tabOf m' (eX C.w))>>=_) _ _ _;refine ai (wpAny_storeSet_of (s:={s with toks:=s.toks+1}) ho hd ?_ (by refine eW QK<|eW dp ?_;lia));simp only[show plainKind (ky (n:Int) t)=true from rfl,if_true,full,jL,ey,if_false]
  have sb:cS a s.heap (s.heap.update a (Ms (cw es p ((n:Int),ky n t)) (tabOf m' (eX C.w)))):=cA _ _ _
  have Yt:(s.heap.update a (Ms (cw es p ((n:Int),ky n t)) (tabOf m' (eX C.w)))).get? a=some {o with data:=.set (cw es p ((n:Int),ky n t)) (ep+1) (tabOf m' (eX C.w))}:=by
   have q:=en (Ms (cw es p ((n:Int),ky n t)) (tabOf m' (eX C.w))) ho (by exact eW (putSet_of _ _ hd) rfl);rw[putSet_of _ _ hd]at q;exact q
  refine ar (ar (h true _ sb ?_ ?_))
  . refine⟨_,_,_,_,Yt,hex,rfl,aak,λj=>?_,?_,Tn,?_⟩
    . refine iL (WK j)<|eW ha ?_
      simp
    . refine eW QK ?_;have:scanBound=4096:=rfl;lia
    . exact eW QK<|eW ha<|eW aJ<|eW hz rfl
  . exact⟨_,_,_,m',Yt,rfl,UE,by refine eW QK ?_;lia⟩
noncomputable def fy(led:Bool):jX:={cls:=.type "set",dict:=none,data:=.set #[] 0 (.fresh 0 0 led)}
theorem tI(ho:h.get? a=some (fy (eX C.w))):mc C.w h a:=⟨_,#[],0,0,ho,rfl,by decide,by decide⟩
theorem ym{led:Bool}(ho:h.get? a=some (fy led)):h.SetOf (ik C) a (λj=>([]:List Int).contains j) ([]:List Int).length:=(setObjOf_fresh led).setOf ho (by decide)
theorem Om(q:Q (.ref s.heap.objs.size) {s with heap:=s.heap.push (fy (eX C.w))}):aK C.M A (newSet (.type "set")) Q E s:=by
 unfold newSet setsByText;refine ai (ai (eG (ar ?_)));dsimp only;simp only[newObj];exact ai (tx (ar q))
theorem HD{elts:List (Bool×Sem aB)}{ts:List (Sem aB)}(hs:elts.findIdx? (·.1)=none)(hlen:elts.length<=30)(hm:elts.map (·.2)=ts)
 (q:aK C.M A (evalAll ts) (λvs s'=>KdsFill C.M A E false s.heap.objs.size Q vs s') E {s with heap:=s.heap.push (fy (eX C.w))}):
 aK C.M A (setDisplay .oneByOne b elts) Q E s:=by
 have hn:(if elts.length>30 then 0 else(elts.findIdx? (·.1)).getD elts.length)=elts.length:=by rw[if_neg (by lia),hs];rfl
 unfold setDisplay;rw[if_neg (by decide)];refine ai (Om ?_);dsimp only;refine eW hn<|eW n8<|eW M4<|eW hm ?_;refine ai (bM (ai (dQ q (λvs s' h'=>?_) λ_ _ x=>x)));refine ai (bM (ai (dQ (kds_for (λx P s hx=>?_) vs s' h') (λ_ s1 h1=>?_) λ_ _ x=>x)))
 . refine ai (dQ hx (λ_ s2 h2=>?_) λ_ _ x=>x)
   exact ar ⟨rfl,h2⟩
 . have h2:Q (.ref s.heap.objs.size) s1:=by simpa[KdsFill]using h1
   rw[if_neg (by decide)];refine ar ?_;rw[mh];exact ar (ar h2)
theorem SN(B:Base C)(W:bz C G wl s.heap):bU<s.heap.objs.size:=j8 B.g λo _ _ ho _=>bb (W.sub _ _ (W.base _ _ ho))
theorem Fu(B:Base C)(W:bz C G wl s.heap):(s.heap.objs.size==sysModules)=false:=beq_eq_false_iff_ne.mpr λe=>absurd (e▸SN B W) (by decide)
theorem gr(W:bz C G wl s.heap):eQ C G s.heap.objs.size:=
 ⟨λq hq e=>qn (W.tabs q hq) λ_ _ ps h3 _=>gone eI (e▸h3),λe=>match wl,(e▸W.well:gI C G s.heap (some s.heap.objs.size) wl)with
   |some ds,hw=>nX hw λ_ vs n h1 _=>gone eI h1⟩
theorem gM(W:bz C G wl s.heap):G.F s.heap.objs.size=none:=none_of (y:=(none:Option jX)) (λo q=>gone eI (W.sub _ _ q)) rfl
noncomputable def N9(b a:aO):Option Role:=if a=b then some (.own 0 0)else none
theorem Dn{b:aO}{r:Role}(e:N9 b a=some r)(k:a=b->r=.own 0 0->P):P:=dU e λh e=>k h (ag e).symm
theorem Dj{o:jX}(tk:Nat)(hf:o.isFreed=false)(W:bz C G wl s.heap)
 (h:∀O':aO->Option Role,O' s.heap.objs.size=some (.own 0 0)->dM C G O' (s.heap.push o) (λk=>some (.own 0 k)) (.ref s.heap.objs.size) t):
 PE C G O s (.own t) wl (.ref s.heap.objs.size) {s with heap:=s.heap.push o,toks:=tk}:=
 ⟨G,.grow _ _ (cQ o),W.grow (cQ o),N9 s.heap.objs.size,λa r e=>Dn e λq e=>q▸⟨eI,⟨0,e,by decide⟩,gM W,gr W,o,hC hf⟩,h _ (if_pos rfl)⟩
theorem Step.mod{t:Nat}(x:Step C G G' s s')(n:s.heap.get? a=none)(sb:cS a s'.heap h'):Step C G G' s {s' with heap:=h',toks:=t}where
 ext:=x.ext
 keep:=λb o f e=>(sb.2 b λq=>gone n (q▸e)).trans (x.keep b o f e)
 alive:=λb o e=>xE (x.alive b o e) λo' e'=>⟨o',(sb.2 b λq=>gone n (q▸e)).trans e'⟩
 lx:=x.lx
 kB:=x.kB
 gens:=x.gens
 os:=x.os
theorem gI.mod(W:gI C G h ow wl)(k:∀b,ow=some b->h'.get? b=h.get? b):gI C G h' ow wl:=match ow,wl,W,k with
 |some b,some ds,W,k=>nX W λh1 vs n h2 r=>⟨h1,vs,n,(k b rfl).trans h2,r⟩
 |none,none,_,_=>trivial
theorem bz.mod(W:bz C G wl h)(f:G.F a=none)(fr:eQ C G a)(sb:cS a h h'):bz C G wl h' where
 sub:=λb o e=>(sb.2 b λq=>gone f (q▸e)).trans (W.sub b o e)
 base:=W.base
 tabs:=λq hq=>qn (W.tabs q hq) λh1 h2 ps h3 r=>⟨h1,h2,ps,(sb.2 _ (fr.1 q hq)).trans h3,r⟩
 well:=W.well.mod λb e=>sb.2 b λq=>fr.2 (q▸e)
theorem Vb{n:Nat}{pos:dK}(L:fO (dS C bp k sc ns) es il)(hn:es.length<1000):dS C bp k sc ns (.Tuple es n pos) (.tup il):=
 .mk' (λG O env A s fr wl e bQ q H=>f9 (Lj.symm.trans q) λxs w1 q1 q=>tM q λds q2=>by
  refine eW (aa_ ..) ?_;refine ai (cc (ai (cX (qz L G O env A s fr wl xs w1 pos 0 q1 H) λvs aM h=>dT h λG1 x1 W1 h=>bS h λbq m R=>?_)));refine aa5 ((l8 _ aM.toks rfl W1 λG' y1 y2=>.tup (vs:=vs) (n:=0) (by exact eW y2 rfl) ((R.xS q2).mono y1)).after x1) (by have:=qG L q1;have:=R.length;refine eW dp ?_;lia)) (λ_ _=>rfl) (λ_ _=>dg rfl) rfl
theorem Vi{own:Bool}{pos:dK}(L:fO (dS C bp k sc ns) es il)(hn:es.length<1000):dS C bp k sc ns (.List es pos) (.lst own il):=
 .mk' (λG O env A s fr wl e bQ q H=>f9 (Ln.symm.trans q) λxs w1 q1 q=>tM q λds q2=>by
  refine eW (It ..) ?_;refine ai (cc (ai (cX (qz L G O env A s fr wl xs w1 pos 0 q1 H) λvs aM h=>dT h λG1 x1 W1 h=>bS h λbq m R=>?_)));refine jC (PE.after x1 ?_) (by have:=qG L q1;have:=R.length;refine eW dp ?_;lia);induction own using ax with
  |false=>exact l8 _ aM.toks rfl W1 λG' y1 y2=>.list (vs:=vs) (n:=0) (by exact eW y2 rfl) ((R.xS q2).mono y1)
  |true=>exact Dj aM.toks rfl W1 λO' hO=>⟨_,rfl,hO,gr W1,gM W1,vs.toArray,0,hC rfl,R.xS q2⟩) (λ_ _=>rfl) (λ_ _=>dg rfl) rfl
theorem Ef{o:jX}(ho:h.get? a=some o)(hd:o.data=.dict #[]){n:Nat}:h.DictLe a n:=λo' es ep pZ ui=>by
 rw[ho]at pZ;cases pZ;rw[hd]at ui;cases ui;exact aU _
theorem NG{pos:dK}:dS C bp k sc ns (.Dict [] [] pos) .B2:=
 .mk' (λG O env A s fr wl e bQ q H=>sp q (wpAny_Dict_empty (Dj s.toks rfl H.W λO' hO=>
  ⟨_,rfl,hO,gr H.W,gM H.W,Fu H.base H.W,λ_=>none,[],acv s.heap,.nil,λ_=>rfl,Ef (hC rfl) rfl,eC⟩))) (λ_ _=>rfl) (λ_ _=>dg rfl) rfl
theorem Kt{Q:Bool->aN->Prop}(W:bz C G wl s.heap)(hc:env.code=.none\/∃q,mX G.F env.code q)(h:∀b,Q b s):aK C.M A (inMainModule env) Q E s:=by
 unfold inMainModule;rcases hc with hc|⟨q,c,o,vs,t,hc,ho,hd,_⟩
 . exact eW hc<|ar (h _)
 . refine eW hc ?_
   split
   . exact ar (h _)
   . refine ai (aa8 (W.sub _ _ ho) hd ?_)
     split
     . exact ai (eG (ar (h _)))
     . exact ar (h _)
theorem Oh(h:notStar e=true):kdsPlain e=true:=by induction e using bF<;>first|rfl|exact ff h
@[elab_as_elim] theorem Ll{a:IE}{r:EV}{P:EV->WL->Prop}(q:ev bp (.GV (.cons a .nil)) fr wl=some (r,bQ))(k:∀x w1 i,ev bp a fr wl=some (x,w1)->pP x=some i->0<=i/\i<64->P (.own (.ob (.set [i]))) w1):P r bQ:=by
  rw[Pm,ku]at q;induction h:ev bp a fr wl using aA with
  |none=>rw[h]at q;exact nn q
  |some y=>
   rw[h]at q
   have q:((xS [y.1]).bind λds=>(eZ ds).bind λis=>(Kd is).map λr=>(r,y.2))=some (r,bQ):=q;exact ob q λds h2 q=>ob h2 λd h3 h2=>(sk (P:=λds=>(eZ ds).bind (λis=>(Kd is).map λr=>(r,y.2))=some (r,bQ)->P r bQ) h2 λq=>ob q λis h4 q=>ob h4 λi h5 h4=>
    (sk (P:=λis=>(Kd is).map (λr=>(r,y.2))=some (r,bQ)->P r bQ) h4 λq=>tM q λe h6=>dU h6 λhi h6=>sk h6 (k y.1 y.2 i h (bs h3 h5) hi)) q) q
theorem RY{a:IE}{pos:dK}(ha:dS C bp k sc ns e a):dS C bp k sc ns (.Set [e] 0 pos) (.GV (.cons a .nil)):=
 .mk' (λG O env A s fr wl x bQ q H=>Ll q λx w1 i q0 q2 hi=>by
  refine eW (arm_eval_Set ..) ?_;refine ai (cc (ai (Kt H.W H.F.code λb=>?_)));rw[kds_star [e] (by simp[Oh ha.star]),bH];refine HD (ts:=(evalEach [e] env).map λt=>do let v<-t;standAt pos;pure v) rfl (by simp[arm_evalEach_cons,arm_evalEach_nil]) (by exact eW bH rfl) ?_;refine kds_all pos [e] _ _ ?_
  have x1:Step C G G s {s with heap:=s.heap.push (fy (eX C.w))}:=.grow _ _ (cQ _);refine ha.run (H.step x1 (H.W.grow (cQ (fy (eX C.w))))) q0 λv b0 G2 x2 H2 R2=>?_
  have f0:=gr H.W
  have g0:=hC (s:=s) (o:=(fy (eX C.w))) rfl
  have g2:=x2.keep _ _ f0 g0
  show aK C.M A (setAdd s.heap.objs.size v) _ ee b0;refine iA R2 q2 λt=>?_
  (refine xE (gn hi.1) λn q1=>?_;subst q1)
  refine yY (xs:=[]) (ym g2) (tI g2) (by decide) (by lia) λ_ h' O8 Pg sm=>?_;exact⟨G2,(x1.trans x2).mod eI O8,H2.W.mod (x2.Aq (gM H.W) g0) (x2.free f0 g0) O8,N9 s.heap.objs.size,λa r e=>Dn e λq e=>q▸xE (mH Pg) λo ho=>⟨eI,⟨0,e,by decide⟩,x2.Aq (gM H.W) g0,x2.free f0 g0,o,ho⟩,
   _,rfl,if_pos rfl,x2.free f0 g0,x2.Aq (gM H.W) g0,Pg,by simp,sm⟩) (λ_ _=>rfl) (λ_ _=>dg rfl) rfl
theorem PZ(W:bz C G none s.heap):G.aw=none:=none_of (y:=(none:Option aO)) (λa q=>(q▸W.well:gI C G s.heap (some a) none).elim) rfl
theorem NZ{vs:Array aB}(W:bz C G none s.heap)(R:bB C G vs.toList ds):PE C G O s (.fv .well) (some ds) (.ref s.heap.objs.size) {s with heap:=s.heap.push {cls:=.type "list",data:=.seq vs 0}}:=
 have ex:Ext G ⟨G.F,some s.heap.objs.size⟩:=⟨λ_ _ h=>h,λ_ h=>gone (PZ W) h⟩
 ⟨⟨G.F,some s.heap.objs.size⟩,⟨ex,λa o _ e=>cQ _ a o e,λa o e=>⟨o,cQ _ a o e⟩,λ_ _ e=>.inl e,λa e=>ag e▸.inr eI,rfl,rfl⟩,
  have W2:=W.grow (cQ {cls:=.type "list",data:=.seq vs 0})
  ⟨W2.sub,W2.base,λq hq=>qn (W2.tabs q hq) λh1 h2 ps h3 r=>⟨h1,λe=>(gr W).1 q hq (ag e).symm,ps,h3,r⟩,(show gI C ⟨G.F,some s.heap.objs.size⟩ _ (some s.heap.objs.size) (some ds)from⟨(show G.F _=none from gM W),vs,0,hC rfl,R.mono ex⟩)⟩,.well rfl⟩
theorem JE{e1 e2:af}{pos:dK}{a b:IE}(ha:dS C bp k sc ns e1 a)(hb:dS C bp k sc ns e2 b):dS C bp k sc ns (.List [e1,e2] pos) (.vK a b):=
 .mk' (λG O env A s fr wl e bQ q H=>f9 (yJ.symm.trans q) λx w1 q1 q=>f9 q λy w2 q2 q=>ob q λp h1 q=>ob q λr h2 q=>tM q λ_ h3=>by
  refine eW (It ..) ?_
  have q4:ox bp (.cons a (.cons b .nil)) fr wl=some ([x,y],w2):=ku.trans (bs q1 (ms (ku.trans (bs q2 (ms F8)))));refine ai (cc (ai (cX (qz (show fO (dS C bp k sc ns) [e1,e2] (.cons a (.cons b .nil))from⟨ha,hb,trivial⟩) G O env A s fr wl [x,y] w2 pos 0 q4 H) λvs aM h=>dT h λG1 x1 W1 h=>bS h λbq m R=>?_)))
  have R':=R.xS (ds:=[p,r]) (bs h1 (ms (bs h2 rfl)));obtain rfl:=Oj h3;exact jC (PE.after x1 (NZ (vs:=vs.toArray) W1 R')) (by exact eW dp<|eW R'.length<|av rfl)) (λ_ _=>rfl) (λ_ _=>dg rfl) rfl
noncomputable def pQ(sl:List (bA×aB))(p:bA×aB):List (bA×aB):=if(sl.lookup p.1).isNone then sl++[p]else sl
theorem lookup_append{α:Type}:∀{l r:List (bA×α)},(l++r).lookup x=(l.lookup x).or (r.lookup x)
 |[],_=>rfl
 |(y,v)::l,r=>by
  rw[M6,bL,bL];induction x==y using ax with
  |true=>rfl
  |false=>exact lookup_append
theorem o9:∀{L sl:List (bA×aB)},(L.foldl pQ sl).lookup x=(sl.lookup x).or (L.lookup x)
 |[],sl=>by simp
 |(y,v)::L,sl=>by
  refine eW List.foldl_cons<|eW o9 ?_;unfold pQ;split
  . rename_i hn
    rw[lookup_append,bL,bL,List.lookup_nil];induction hx:x==y using ax with
    |true=>induction sl.lookup x using aA<;>rfl
    |false=>induction sl.lookup x using aA<;>rfl
  . rename_i hn
    rw[bL];induction hx:x==y using ax with
    |true=>
     have e:=beq_iff_eq.mp hx;subst e;dsimp only at hn;induction h:sl.lookup x using aA with
     |none=>rw[h]at hn;exact absurd rfl hn
     |some v'=>rfl
    |false=>rfl
theorem fR{α:Type}:∀{ns:List bA}{vs:List α}{i:Nat}{x:bA},ns.Nodup->ns[i]?=some x->(ns.zip vs).lookup x=vs[i]?
 |[],_,_,_,_,h=>by simp at h
 |n::ns,[],i,x,_,h=>by simp
 |n::ns,v::vs,0,x,nd,h=>by simp at h;subst h;simp
 |n::ns,v::vs,i+1,x,nd,h=>by
  simp at h
  (refine xA (cp.mp nd) λh1 h2=>?_)
  have hx:(x==n)=false:=beq_eq_false_iff_ne.mpr λe=>h1 (e▸aF h);rw[gE,bL,hx];simpa using fR h2 h
theorem gp{α:Type}:∀{ns:List bA}{vs:List α}{x:bA},x∉ns->(ns.zip vs).lookup x=none
 |[],_,_,_=>by simp
 |n::ns,[],x,_=>by simp
 |n::ns,v::vs,x,h=>by
  have hx:(x==n)=false:=beq_eq_false_iff_ne.mpr λe=>h (e▸a7);rw[gE,bL,hx];exact gp λq=>h (aW _ q)
theorem qs:∀{ns:List bA}{vs:List aB}{f:bA->Option aB},vs.length=ns.length->(∀(i:Nat)(x:bA),ns[i]?=some x->f x=vs[i]?)->(ns.filterMap λn=>(f n).map (n,·))=ns.zip vs
 |[],_,_,_,_=>by simp
 |n::ns,[],_,hl,_=>by simp at hl
 |n::ns,v::vs,f,hl,h=>by
  have h0:=h 0 n rfl;simp at h0;refine eW lI<|eW h0 ?_;simp only[Mv,gE];rw[qs (by simpa using hl) λi x e=>by simpa using h (i+1) x (by simpa using e)]
theorem wA:∀{L sl:List (bA×aB)}{f:bA×aB->List (bA×aB)->Sem (ForInStep (List (bA×aB)))},
 (∀p sl,f p sl=pure (.yield (pQ sl p)))->forIn L sl f=pure (L.foldl pQ sl)
 |[],sl,f,h=>by rw[mh];rfl
 |p::L,sl,f,h=>by
  rw[je,h,pure_bind];exact wA h
theorem M8(nd:ns.Nodup)(hx:ns[i]?=some x):
 ((ns.zip vs).lookup x).or (((ns.drop (ns.length-us.length)).zip us).lookup x)=if i<vs.length then vs[i]?else(if ns.length-us.length<=i then us[i-(ns.length-us.length)]?else none):=by
 have hi:i<ns.length:=by
  induction q:decide (i<ns.length)using ax with
  |true=>exact of_decide_eq_true q
  |false=>rw[ba (bu (of_decide_eq_false q))]at hx;exact nn hx
 refine eW (fR nd hx) ?_;split
 . rename_i h
   refine eW (aV h) ?_;rfl
 . rename_i h
   refine eW (ba (bu h)) ?_
   show((ns.drop (ns.length-us.length)).zip us).lookup x=_;split
   . rename_i h2
     refine fR (nd.sublist (List.drop_sublist _ _)) ?_;refine eW gG ?_;exact eW (show ns.length-us.length+(i-(ns.length-us.length))=i from cH h2)<|hx
   . rename_i h2
     refine gp λhm=>?_
     (refine xE (ck.mp hm) λj hj=>?_)
     rw[gG]at hj
     have oo:ns.length-us.length+j<ns.length:=by
      induction q:decide (ns.length-us.length+j<ns.length)using ax with
      |true=>exact of_decide_eq_true q
      |false=>rw[ba (bu (of_decide_eq_false q))]at hj;exact nn hj
     have:=(jJ hi nd).mp (hx.trans hj.symm);lia
theorem yu{α:Type}{l:List α}{x:α}(h:l[i]?=some x):i<l.length:=(c9.mp h).1
theorem Hr{n d:Nat}(nd:ns.Nodup)(hl:ns.length=n)(hd:n<=vals.length+d):((ns.take (n-d)).filter λx=>((ns.zip vals).lookup x).isNone)=[]:=
 jK.mpr λx hx=>xE (ck.mp hx) λi hi=>by
  have oo:i<n-d:=az (yu hi) (by exact eW gf<|pV _ _);rw[dH oo]at hi;refine eW (fR nd hi)<|eW (aV (show i<vals.length from az oo (Iz hd))) ?_;exact ay
theorem wG{n x d:Nat}(h:n<=x+d):d-(d-(n-x))=n-x:=ou (Nat.sub_le_iff_le_add'.mpr h)
theorem I6(nd:ns.Nodup)(hv:vals.length<=ns.length)(hd:ns.length<=vals.length+dv.length)(hd2:dv.length<=ns.length):
 (ns.filterMap λn=>((((ns.drop (ns.length-dv.length)).zip dv).foldl pQ (ns.zip vals)).lookup n).map (n,·))=ns.zip (vals++dv.drop (dv.length-(ns.length-vals.length))):=
 qs (by exact eW aJ<|eW oa<|eW (wG hd)<|cH hv) λi x hx=>by
  have hi:=yu hx;refine eW o9<|eW (M8 nd hx)<|eW GC ?_;split
  . rfl
  . rename_i h1
    refine eW (if_pos (ak (Gy.mpr hd) (bu h1)))<|eW gG ?_
    congr 1
    exact eW (MY _ hv)<|eW (ph dv.length ..)<|eL (MY _ hd2)<|eW (ph ..)<|(Nat.sub_add_sub_cancel (bu h1) (Gy.mpr hd)).symm
theorem PQ{M:Model}{Q:List (bA×aB)->aN->Prop}(hp:jQ fd.params f=true)(nd:(f.names.take f.params).Nodup)(hn:f.params<=f.names.length)
 (hv:vals.length<=f.params)(hd:f.params<=vals.length+dv.length)(hd2:dv.length<=f.params)
 (hs:∀Q:Option (Array aB)->aN->Prop,(∀r:Option (Array aB),(r.getD #[]).toList=dv->Q r s)->aK M A (seqItems? fd.defaults) Q E s)
 (h:Q ((f.names.take f.params).zip (vals++dv.drop (dv.length-(f.params-vals.length)))) s):aK M A (bindArgs fd ⟨vals,[]⟩) Q E s:=by
 have hlen:(f.names.take f.params).length=f.params:=by exact eW gf<|Nat.min_eq_left hn
 have zd:=I6 nd (hlen.symm▸hv) (hlen.symm▸hd) (hlen.symm▸hd2)
 have mn:=Hr nd hlen hd;rw[hlen]at zd;refine TZ hp λp1 p2 p3 p4 p5 _ _=>?_;replace p1:=fe.mp p1;replace p2:=d_.mp p2;replace p3:=fe.mp p3;replace p4:=d_.mp p4;replace p5:=eq_of_beq p5;clear hp;generalize f.names.take f.params=ns at*;generalize f.params=n at*;unfold bindArgs;simp only[p1,p2,p3,p4,p5,UT,lp,mh,pure_bind,hlen];refine ai (hs _ λr hr=>?_);simp only[hr,show dv.drop (dv.length-n)=dv by exact eW (Nat.sub_eq_zero_of_le hd2) rfl,show decide (vals.length>n)=false from decide_eq_false (cG.mpr hv),hZ,ey,if_false,mn,og,Ax,pure_bind];refine ai ?_;rw[wA (λp sl=>by unfold pQ;split<;>rfl)];refine ar (ar ?_);exact eW (cC ..)<|eW zd<|h
theorem fC:∀(names:List (bA×lT))(n:Nat)(acc:List (bA×aO)),cellsFrom n names acc=cellsFrom n names []++acc
 |[],_,_=>rfl
 |(x,kd)::r,n,acc=>by
  unfold cellsFrom;split
  . exact eW (fC r (n+1) ((x,n)::acc))<|eW (fC r (n+1) [(x,n)])<|eW (gZ ..) rfl
  . exact fC r n acc
theorem TS{AH:aN}{M:Model}(FO:env.cells=cs++cl)(f:bA×aB->PUnit->Sem (ForInStep PUnit))(hf:∀n v u,f (n,v) u=(do storeName env n v;pure (.yield ⟨⟩)))(hk:env.scope.kind=.function):
 ∀(binds:List (bA×aB))(m cm:bA->Option aB)(s:aN)(Q:PUnit->aN->Prop),InCallC AH env.locals m cs cm s->
  (∀x∈binds,env.kindOf x.1=some .local\/(env.kindOf x.1=some .cell/\(cs.lookup x.1).isSome=true))->
  (∀s',InCallC AH env.locals (bindL env.kindOf binds m) cs (bindC env.kindOf binds cm) s'->Q ⟨⟩ s')->aK M A (forIn binds ⟨⟩ f) Q E s:=λbinds=>by
 induction binds using ub with
 |nil=>intro m cm s Q x _ h;exact eW mh (ar (h s x))
 |cons p r ih=>
  intro m cm s Q x FL h;induction p using oz;rename_i n v;rw[je,hf]
  have hr:∀y∈r,env.kindOf y.1=some .local\/(env.kindOf y.1=some .cell/\(cs.lookup y.1).isSome=true):=λy hy=>FL y (aW _ hy);rcases FL (n,v) a7 with hl|⟨hl,hc⟩
  . refine ai (ai (MR hl x.toInCall.ns (λh' UD yD=>ar (ih _ _ _ Q
     (show InCallC AH env.locals _ cs cm {s with heap:=h',toks:=s.toks+1}from⟨⟨?_,UD,λb o e=>?_,x.toInCall.fresh⟩,λk c hc=>?_,x.apart,x.above⟩) hr λqo Zf=>h qo ?_)) (by exact eW hk rfl)))
    . (refine u_ (x.toInCall.same) λkm tk e=>?_)
      exact⟨h',s.toks+1,by exact eW e rfl⟩
    . exact yD.extBut b o (bx (az (bb e) x.toInCall.fresh)) (x.toInCall.keep b o e)
    . exact(x.cell k c hc).sameBut yD (e_ (x.above k c (mem_of_lookup hc)))
    . unfold bindL bindC;exact eW (if_pos hl)<|eW (if_pos hl)<|Zf
  . (refine xE (iM.mp hc) λc hc=>?_)
    have QM:¬env.kindOf n=some .local:=by refine eW hl ?_;decide
    have QQ:env.cells.lookup n=some c:=by exact eW FO<|eW lookup_append<|eW hc rfl
    have hLc:=x.above n c (mem_of_lookup hc);refine ai (ai (P9 hk hl QQ (x.cell n c hc) λh' qY yD=>ar (ih _ (λy=>if y=n then some v else cm y) _ Q
     (show InCallC AH env.locals m cs _ {s with heap:=h'}from⟨⟨?_,x.toInCall.ns.sameBut yD (bx hLc),λb o e=>?_,x.toInCall.fresh⟩,λk c' sO=>?_,x.apart,x.above⟩) hr λqo Zf=>h qo ?_)))
    . (refine u_ (x.toInCall.same) λkm tk e=>?_)
      exact⟨h',tk,by exact eW e rfl⟩
    . exact yD.extBut b o (bx (dk (az (bb e) x.toInCall.fresh) hLc)) (x.toInCall.keep b o e)
    . by_cases hkn:k=n
      . subst hkn
        rw[hc]at sO;cases sO;simpa using qY
      . simp only[if_neg hkn]
        exact(x.cell k c' sO).sameBut yD λe=>hkn (Mq x.apart (mem_of_lookup sO) (e▸mem_of_lookup hc))
    . unfold bindL bindC;exact eW (if_neg QM)<|eW (if_neg QM)<|Zf
theorem Oo{M:Model}{globals:aO}{binds:List (bA×aB)}{qual:bA}{func:Option aO}{code:aB}{builtins:aO}{Q:ra->aN->Prop}
 (hk:scope.kind=.function)
 (FL:∀x∈binds,scope.names.lookup x.1=some .local\/scope.names.lookup x.1=some .cell)
 (hQ:∀env,env=newEnv scope s.heap.objs.size globals (cellsFrom (s.heap.objs.size+1) scope.names []++cl) qual func code none builtins->
   ∀s',InCallC s env.locals (bindL env.kindOf binds λ_=>none) (cellsFrom (s.heap.objs.size+1) scope.names []) (bindC env.kindOf binds λ_=>none) s'->Q env s'):
 aK M A (newFunctionEnv scope globals cl binds qual func code none builtins) Q E s:=by
 simp only[newFunctionEnv,Option.isSome_none,ey,if_false];refine ai (tx ?_);refine ai (aa7 _ (λname kind cells=>by induction MO:kind==me using ax<;>simp[MO]) _ _ _ _ ?_)
 have ok:=cellsFrom_ok scope.names (s.heap.push {cls:=.type "frame",data:=.dict #[]}) (s.heap.objs.size+1) [] ⟨λ_ _ hm=>(nomatch hm),pj⟩ (by exact eW (gc ..)<|aT _);rw[gc]at ok;refine eW (show({s with heap:=s.heap.push {cls:=.type "frame",data:=.dict #[]}}:aN).heap.objs.size=s.heap.objs.size+1 from gc ..)<|eW (fC ..) ?_;refine ai (TS (AH:=s) (cs:=cellsFrom (s.heap.objs.size+1) scope.names []) (cl:=cl) (env:=newEnv scope s.heap.objs.size globals (cellsFrom (s.heap.objs.size+1) scope.names []++cl) qual func code none builtins) rfl
  _ (λ_ _ _=>rfl) hk binds (λ_=>none) (λ_=>none) _ _
  ⟨⟨⟨_,_,rfl⟩,(Rp s.heap (.type "frame")).keeps (qZ _ _),λb o e=>qZ _ _ b o (a_ _ e),aT _⟩,
    λn c hc=>(ok.empty n c (mem_of_lookup hc)).1,ok.apart,λn c hm=>(ok.empty n c hm).2⟩
  (λx hx=>(FL x hx).imp id λe=>⟨e,EK _ _ _ (.inl e)⟩) λs' x=>ar (hQ _ rfl s' x))
theorem LY{kd:bA->Option lT}{m:bA->Option aB}(nd:ns.Nodup)(hx:kd x=some .local):bindL kd (ns.zip vs) m x=((ns.zip vs).lookup x).or (m x):=
 l2 (P:=λns vs=>∀m:bA->Option aB,ns.Nodup->bindL kd (ns.zip vs) m x=((ns.zip vs).lookup x).or (m x)) ns vs (λ_ _=>rfl) (λn ns v vs ih m nd=>by
  (refine xA (cp.mp nd) λh1 h2=>?_)
  rw[gE,bL];unfold bindL;refine eW (ih _ h2) ?_;by_cases e:x=n
  . subst e
    refine eW (gp h1)<|eW (if_pos hx) ?_;simp
  . have hb:(x==n)=false:=beq_eq_false_iff_ne.mpr e
    refine eW hb ?_;split<;>simp[e]) (λ_ _ _ _=>rfl) (λ_ _ _ _=>rfl) m nd
theorem LZ{kd:bA->Option lT}{m:bA->Option aB}(nd:ns.Nodup)(hx:kd x≠some .local):bindC kd (ns.zip vs) m x=((ns.zip vs).lookup x).or (m x):=
 l2 (P:=λns vs=>∀m:bA->Option aB,ns.Nodup->bindC kd (ns.zip vs) m x=((ns.zip vs).lookup x).or (m x)) ns vs (λ_ _=>rfl) (λn ns v vs ih m nd=>by
  (refine xA (cp.mp nd) λh1 h2=>?_)
  rw[gE,bL];unfold bindC;refine eW (ih _ h2) ?_;by_cases e:x=n
  . subst e
    refine eW (gp h1)<|eW (if_neg hx) ?_;simp
  . have hb:(x==n)=false:=beq_eq_false_iff_ne.mpr e
    refine eW hb ?_;split<;>simp[e]) (λ_ _ _ _=>rfl) (λ_ _ _ _=>rfl) m nd
def qk(O:aO->Option Role)(a:aO):Prop:=∃r,O a=some r/\r≠.ki
structure bX(C:Cx)(G G':Gh)(O O':aO->Option Role)(s s':aN):Prop where
 ext:Ext G G'
 keep:∀a o,eQ C G a->¬qk O a->s.heap.get? a=some o->s'.heap.get? a=some o
 alive:∀a o,s.heap.get? a=some o->∃o',s'.heap.get? a=some o'
 lx:∀a o,G'.F a=some o->G.F a=some o\/s.heap.get? a=none\/qk O a
 kB:∀a,G'.aw=some a->G.aw=some a\/s.heap.get? a=none
 own:∀a o,s.heap.get? a=some o->¬qk O a->¬qk O' a
 Oi:∀a o,s.heap.get? a=some o->O a=none->O' a=none
 Nv:∀a i,O' a=some (.own i n3)->O a=some (.own i n3)
 gens:s'.gens=s.gens
 os:s'.os=s.os
theorem Step.o(x:Step C G G' s s'):bX C G G' O O s s':=⟨x.ext,λa o f _ e=>x.keep a o f e,x.alive,λa o e=>(x.lx a o e).imp id .inl,x.kB,λ_ _ _ h=>h,λ_ _ _ h=>h,λ_ _ h=>h,x.gens,x.os⟩
theorem bX.trans(x:bX C G G' O O' s s')(y:bX C G' EX O' O'' s' qo):bX C G EX O O'' s qo where
 ext:=x.ext.trans y.ext
 keep:=λa o f hn e=>y.keep a o ⟨f.1,λq=>(x.kB a q).elim f.2 λq=>gone q e⟩ (x.own a o e hn) (x.keep a o f hn e)
 alive:=λa o e=>xE (x.alive a o e) (y.alive a)
 lx:=λa o e=>(Classical.em (qk O a)).elim (λhm=>.inr (.inr hm)) λhm=>match e2:s.heap.get? a with
  |none=>.inr (.inl rfl)
  |some o2=>(y.lx a o e).elim (λq=>(x.lx a o q).imp id λq=>q.elim (λq=>gone q e2) λq=>absurd q hm) λq=>q.elim (λq=>xE (x.alive a o2 e2) λ_ e'=>gone q e') λq=>absurd q (x.own a o2 e2 hm)
 kB:=λa e=>(y.kB a e).elim (x.kB a) λq=>.inr (none_of (x.alive a) q)
 own:=λa o e h=>xE (x.alive a o e) λo' e'=>y.own a o' e' (x.own a o e h)
 Oi:=λa o e h=>xE (x.alive a o e) λo' e'=>y.Oi a o' e' (x.Oi a o e h)
 Nv:=λa i h=>x.Nv a i (y.Nv a i h)
 gens:=y.gens.trans x.gens
 os:=y.os.trans x.os
theorem bX.out{G0:Gh}(x:Step C G0 G s0 s)(y:bX C G G' O O' s s')(n:∀a o,s0.heap.get? a=some o->¬qk O a):Step C G0 G' s0 s' where
 ext:=x.ext.trans y.ext
 keep:=λa o f e=>y.keep a o (x.free f e) (n a o e) (x.keep a o f e)
 alive:=λa o e=>xE (x.alive a o e) (y.alive a)
 lx:=λa o e=>match e2:s0.heap.get? a with
  |none=>.inr rfl
  |some o2=>(y.lx a o e).elim (λq=>(x.lx a o q).imp id λq=>gone q e2) λq=>q.elim (λq=>xE (x.alive a o2 e2) λ_ e'=>gone q e') λq=>absurd q (n a o2 e2)
 kB:=λa e=>(y.kB a e).elim (x.kB a) λq=>.inr (none_of (x.alive a) q)
 gens:=y.gens.trans x.gens
 os:=y.os.trans x.os
def I1(C:Cx)(G:Gh)(O:aO->Option Role)(h:eu):Prop:=∀a r,O a=some r->G.F a=none/\eQ C G a/\∃o,h.get? a=some o
theorem I1.step(x:Step C G G' s s')(y:I1 C G O s.heap):I1 C G' O s'.heap:=λa r e=>mF (y a r e) λh1 h2 o ho=>⟨x.Aq h1 ho,x.free h2 ho,o,x.keep _ _ h2 ho⟩
theorem fY:∀(names:List (bA×lT))(n:Nat),(cellsFrom n names []).all (λp=>decide (n<=p.2))=true
 |[],_=>rfl
 |(x,kd)::r,n=>by
  unfold cellsFrom;split
  . refine eW (fC ..)<|eW List.all_append ?_
    have:=fY r (n+1);simp only[bY,Um,List.all_nil,m7,decide_eq_true_eq,aT,and_true];refine aH.mpr λp hp=>?_
    have:=aH.mp this p hp;simp only[decide_eq_true_eq]at this⊢;lia
  . exact fY r n
theorem j7:∀(names:List (bA×lT))(n:Nat),(names.map (·.1)).Nodup->((cellsFrom n names []).map (·.1)).Nodup/\∀p∈cellsFrom n names [],(p.1,me)∈names
 |[],_,_=>⟨eC,λ_ h=>(nomatch h)⟩
 |(x,kd)::r,n,nd=>by
  rw[bT]at nd
  (refine xA (cp.mp nd) λh1 h2=>?_)
  unfold cellsFrom;split
  . rename_i hk
    (refine xA (j7 r (n+1) h2) λa b=>?_)
    refine eW (fC ..) ?_;refine⟨?_,λp hp=>?_⟩
    . refine eW bf ?_
      refine mW.mpr ⟨a,by simp,λy hy z hz=>?_⟩;simp only[bT,UT,aI]at hz;subst hz;intro e;subst e
      (refine bS (bO.mp hy) λp hp q1=>?_;subst q1)
      exact h1 (bO.mpr ⟨_,b p hp,rfl⟩)
    . rcases cq.mp hp with hp|hp
      . exact aW _ (b p hp)
      . simp only[aI]at hp
        subst hp;exact eW (beq_iff_eq.mp hk)<|a7
  . (refine xA (j7 r n h2) λa b=>?_)
    exact⟨a,λp hp=>aW _ (b p hp)⟩
theorem lookup_mem{α:Type}{l:List (bA×α)}{p:bA×α}(nd:(l.map (·.1)).Nodup)(h:p∈l):l.lookup p.1=some p.2:=
 l.rec (motive:=λl=>(l.map (·.1)).Nodup->p∈l->l.lookup p.1=some p.2) (λ_ h=>absurd h a8) (λq r ih nd h=>xA (cp.mp nd) λh1 h2=>by
  exact eW bL<|(a6.mp h).elim (λe=>by refine eL e ?_;exact eW (beq_self_eq_true _) rfl) λh=>by
   exact eW (beq_eq_false_iff_ne.mpr λe=>h1 (bO.mpr ⟨p,h,e⟩):(p.1==q.1)=false)<|ih h2 h) nd h
def nh(ns:List bA)(fr:List Slot)(x:bA):Bool:=(ns.zip fr).all λp=>p.1 !=x||p.2.writable
noncomputable def nN(L:aO)(cs:List (bA×aO))(wr:bA->Bool)(bq O:aO->Option Role)(a:aO):Option Role:=
 if a=L then some .loc else((cs.find? λp=>p.2==a&&wr p.1).map λp=>Role.cell p.1).or ((bq a).or ((O a).map λ_=>.ki))
section
variable {c:aO}{wr:bA->Bool}
theorem find_key{p:bA×aO}(h:(cs.find? λp=>p.2==a&&wr p.1)=some p)(k:p.2=a->wr p.1=true->p∈cs->P):P:=
 have h2:(p.2==a&&wr p.1)=true:=xw (p:=λp:bA×aO=>p.2==a&&wr p.1) h
 an h2 λh1 h2=>k (eq_of_beq h1) h2 (iE h)
theorem Pl(k:∀p∈cs,p.2=a->wr p.1=true->False):(cs.find? λp=>p.2==a&&wr p.1)=none:=none_of (y:=(none:Option Role)) (λp h=>find_key h λh1 h2 h3=>(k p h3 h1 h2).elim) rfl
@[elab_as_elim] theorem HX{r:Role}{P:aO->Prop}(e:nN L cs wr bq O a=some r)(k1:P L)(k2:∀p∈cs,P p.2)(k3:∀r,bq a=some r->P a)(k4:∀r,O a=some r->P a):P a:=
  se e (λh _=>h▸k1) λ_ e=>Qx e (λe=>Ap e λp hp _=>find_key hp λh1 _ h3=>h1▸k2 p h3) λe=>Qx e (k3 r) λe=>Ap e λr' h _=>k4 r' h
theorem pO(cl:∀p∈cs,L<p.2)(ha:a<L):nN L cs wr bq O a=(bq a).or ((O a).map λ_=>.ki):=
 (if_neg (bx ha)).trans (by refine eW (Pl (wr:=wr) (a:=a) λp hp h1 _=>absurd (h1▸cl p hp) (XZ ha)) ?_;rfl)
theorem Ec(cl:∀p∈cs,L<p.2)(hm:(y,c)∈cs)(hu:∀n,(n,c)∈cs->n=y)(h1:bq c=none)(h2:O c=none):nN L cs wr bq O c=if wr y then some (.cell y)else none:=by
 refine(if_neg (e_ (cl _ hm))).trans ?_;refine eW h1<|eW h2 ?_;induction hq:cs.find? (λp=>p.2==c&&wr p.1)using aA with
 |some p=>
  refine find_key hq λh3 h4 h5=>?_
  have e:=hu p.1 (h3▸h5);exact eL e<|eW h4 rfl
 |none=>
  have:=jh.mp hq _ hm;rw[if_neg λh=>this (by rw[h,beq_self_eq_true];rfl)];rfl
end
theorem Na(nd:ns.Nodup)(hx:ns[i]?=some x)(hs:fr[i]?=some sl):nh ns fr x=sl.writable:=by
 unfold nh;induction hw:sl.writable using ax with
 |true=>
  refine aH.mpr λp hp=>?_
  (refine xE (ck.mp hp) λj hj=>?_)
  rw[mD]at hj;by_cases e:p.1=x
  . have:j=i:=by
     have oo:i<ns.length:=by
      induction q:decide (i<ns.length)using ax with
      |true=>exact of_decide_eq_true q
      |false=>rw[ba (bu (of_decide_eq_false q))]at hx;exact nn hx
     exact((jJ oo nd).mp (hx.trans (e▸hj.1).symm)).symm
    subst this;rw[hs]at hj;simp only[qj]at hj;refine eL hj.2<|eW hw ?_;simp
  . simp[e]
 |false=>
  refine dX.mpr λh=>?_
  have:=aH.mp h (x,sl) (ck.mpr ⟨i,by refine iW mD ?_;exact⟨hx,hs⟩⟩);simp[hw]at this
theorem nK{aX:List FV}{xs:List EV}(h:lD f aX xs=some fr):
 xs.length<=f.params/\f.params<=xs.length+f.dflt.length/\f.params+aX.length<=f.names.length/\fr=xs.map EV.arg++(f.dflt.drop (f.dflt.length-(f.params-xs.length))).map Slot.val++bD (f.names.length-f.params-aX.length) Slot.unset++aX.map Slot.ro:=
 dU h λhc h=>⟨hc.1,hc.2.1,hc.2.2,(ag h).symm⟩
theorem dB.get{es:List EV}{e:EV}(y:dB C G O bq h i vs es)(q:es[j]?=some e):∃v,vs[j]?=some v/\nW C G O bq h (i+j) v e:=
 y.ind (P:=λi vs es=>∀j,es[j]?=some e->∃v,vs[j]?=some v/\nW C G O bq h (i+j) v e) (λ_ _ q=>nn q) (λi v _ _ _ x _ ih j=>j.casesOn (λq=>⟨v,rfl,ag q▸x⟩) λj q=>dc i 1 j▸ih j q) j q
inductive tu(f:bw)(aX:List FV)(xs:List EV)(i:Nat)(sl:Slot):Prop
 |arg {e:EV}:xs[i]?=some e->i<f.params->sl=e.arg->tu f aX xs i sl
 |dflt {j:Nat} {d:FV}:xs.length<=i->i<f.params->j=i-xs.length->(f.dflt.drop (f.dflt.length-(f.params-xs.length)))[j]?=some d->sl=.val d->tu f aX xs i sl
 |unset:f.params<=i->i<f.names.length-aX.length->sl=.unset->tu f aX xs i sl
 |PM {j:Nat} {d:FV}:i=f.names.length-aX.length+j->aX[j]?=some d->sl=.ro d->tu f aX xs i sl
theorem zi{aX:List FV}{xs:List EV}(h:lD f aX xs=some fr)(e:fr[i]?=some sl):tu f aX xs i sl/\i<f.names.length:=by
 (refine fA (nK h) λh1 h2 h3 q2=>?_;subst q2)
 have hl:(f.dflt.drop (f.dflt.length-(f.params-xs.length))).length=f.params-xs.length:=oa.trans (wG h2)
 have hA:(xs.map EV.arg++(f.dflt.drop (f.dflt.length-(f.params-xs.length))).map Slot.val).length=f.params:=by exact eW aJ<|eW (aj ..)<|eW (aj ..)<|eW hl<|cH h1
 have hB:(xs.map EV.arg++(f.dflt.drop (f.dflt.length-(f.params-xs.length))).map Slot.val++bD (f.names.length-f.params-aX.length) Slot.unset).length=f.names.length-aX.length:=by
  exact eW aJ<|eW hA<|eW gR<|eW (Mw ..)<|cH (kW h3)
 clear h
 have hn:aX.length<=f.names.length:=ak (jg _ _) h3;refine uQ e (λe=>uQ e (λe=>uQ e (λe=>get_map e λx hx e=>?_) λj hj e=>get_map e λx hx e=>?_) λj hj e=>?_) λj hj e=>get_map e λx hx e=>?_
 . have l:=az (fB hx) h1
   exact⟨.arg hx l e.symm,az l (ak (aP _ _) h3)⟩
 . rw[aj]at hj
   have l:i<f.params:=by have:=fB hx;rw[hl]at this;exact hj▸fu this
   exact⟨.dflt (hj▸aP _ _) l (by exact eW hj<|eW (cW ..) rfl) hx e.symm,az l (ak (aP _ _) h3)⟩
 . rw[hA]at hj
   have l:i<f.names.length-aX.length:=by have:=fB e;rw[gR,Mw]at this;exact hj▸fu this
   exact⟨.unset (hj▸aP _ _) l (List.eq_of_mem_replicate (aF e)),az l (pf _ _)⟩
 . rw[hB]at hj
   exact⟨.PM hj hx e.symm,hj▸fu (jy (fB hx) (ou hn).symm)⟩
theorem D9{aX:List FV}{xs:List EV}(h:lD f aX xs=some fr):fr.length=f.names.length:=by
 (refine fA (nK h) λh1 h2 h3 q3=>?_;subst q3)
 exact eW aJ<|eW aJ<|eW aJ<|eW (aj ..)<|eW (aj ..)<|eW (aj ..)<|eW gR<|eW oa<|eW (wG h2)<|eW (cH h1)<|eW (fc ..)<|eW (mz (Nat.le_sub_of_add_le' h3))<|eW (cH (ak (aP _ _) h3)) rfl
theorem kg(W:bz C G wl s.heap)(n:s.heap.get? a=none):G.F a=none:=none_of (y:=(none:Option jX)) (λo q=>gone n (W.sub _ _ q)) rfl
theorem gx(W:bz C G wl s.heap)(n:s.heap.get? a=none):eQ C G a:=
 ⟨λq hq e=>qn (W.tabs q hq) λ_ _ ps h3 _=>gone n (e▸h3),λe=>match wl,(e▸W.well:gI C G s.heap (some a) wl)with
   |some ds,hw=>nX hw λ_ vs n' h1 _=>gone n h1⟩
theorem BS(W:bz C G wl s.heap){o:jX}(e:G.F a=some o):eQ C G a:=
 ⟨λq hq h=>gone (W.tabs q hq).1 (h.symm▸e),λh=>match wl,(h▸W.well:gI C G s.heap (some a) wl)with
   |some ds,hw=>gone hw.1 e⟩
theorem Pr{G0:Gh}{aX:List FV}{xs:List EV}{q:bA}
 (W:bz C G wl s.heap)(FA:FnAt C G.F fa f vs fd)(cf:CF f vs.length iS fd)(hm:∀nm,iS=some nm->∃c P,fd.code=.ref c/\(c,P)∈C.tabs/\fd.qualname++".<locals>."++nm=C.tq P)(hq:q=fd.qualname++".<locals>.")(x:Step C G0 G s0 s)(D0:I1 C G0 O s0.heap)
 (m:Cv C G s0.heap s.heap bq)(R:dB C G O bq s.heap 0 vals xs)(Rd:bB C G dv f.dflt)(Rc:bB C G vs aX)(hf:lD f aX xs=some fr)
 (FO:cs=cellsFrom (s.heap.objs.size+1) fd.scope.names [])
 (xR:env=newEnv fd.scope s.heap.objs.size fd.globals (cs++fd.closure) q (some fa) fd.code none fd.builtins)
 (hs:InCallC s env.locals (bindL env.kindOf ((f.names.take f.params).zip (vals++dv.drop (dv.length-(f.params-vals.length)))) λ_=>none) cs (bindC env.kindOf ((f.names.take f.params).zip (vals++dv.drop (dv.length-(f.params-vals.length)))) λ_=>none) s'):
 cL C G (nN s.heap.objs.size cs (nh f.names fr) bq O) ⟨fd.scope,iS,4⟩ f.names env fr s'.heap:=by
 have hk:∀y,env.kindOf y=fd.scope.names.lookup y:=λy=>xR▸rfl
 have WM:env.locals=s.heap.objs.size:=xR▸rfl
 have D6:env.cells=cs++fd.closure:=xR▸rfl
 have qY:=Rc.length
 have sd:=cf.scope;refine an sd λsd _=>an sd λsd QB=>TZ sd λsp nd hn sa sb _ _=>?_;replace nd:=of_decide_eq_true nd;replace QB:=of_decide_eq_true QB;clear sd
 (refine xA (j7 fd.scope.names (s.heap.objs.size+1) QB) λcn1 cn2=>?_)
 have Yo:(f.names.take f.params).Nodup:=nd.sublist (My _ _)
 have keep:=hs.toInCall.keep
 have Cz:Step C G G s s':=u_ hs.toInCall.same λh' tk e=>by subst e;exact .grow h' tk keep
 have D:=D0.step x
 have⟨g1,g2,g3,_⟩:=nK hf
 have LI:∀p∈cs,s.heap.objs.size<p.2:=λp hp=>of_decide_eq_true (aH.mp (fY fd.scope.names (s.heap.objs.size+1)) p (FO▸hp))
 have new:∀{c:aO},s.heap.objs.size<c->s.heap.get? c=none:=λh=>none_of (y:=(none:Option jX)) (λo q=>absurd (bb q) (XZ h)) rfl
 have noO:∀{c:aO},s.heap.get? c=none->bq c=none/\O c=none:=λh=>⟨none_of (y:=(none:Option Role)) (λr q=>ng (m _ r q) λ_ _ _ _ o ho=>gone h ho) rfl,none_of (y:=(none:Option Role)) (λr q=>mF (D _ r q) λ_ _ o ho=>gone h ho) rfl⟩
 have oO:∀{a:aO}{r:Role},O a=some r->nN s.heap.objs.size cs (nh f.names fr) bq O a=some .ki:=λ{a r} e=>mF (D0 a r e) λ_ _ o ho=>xE (x.alive a o ho) λo' pZ=>
  (pO LI (bb pZ)).trans (by exact eW (show bq a=none from none_of (y:=(none:Option Role)) (λr' q=>gone (m a r' q).1 ho) rfl)<|eW e rfl)
 have VW:∀{a:aO}{r:Role},bq a=some r->nN s.heap.objs.size cs (nh f.names fr) bq O a=some r:=λ{a r} e=>ng (m a r e) λ_ _ _ _ o ho=>(pO LI (bb ho)).trans (by exact eW e rfl)
 have top:∀{i:Nat}{y:bA},f.names[i]?=some y->i<f.params->(f.names.take f.params)[i]?=some y:=λhy h=>(dH h).trans hy
 have free:∀{i:Nat}{y:bA},f.names[i]?=some y->¬i<f.names.length-aX.length->(f.names.drop (f.names.length-vs.length))[i-(f.names.length-vs.length)]?=some y/\env.kindOf y=some .free/\cs.lookup y=none:=λ{i y} hy hi=>by
  have yF:(f.names.drop (f.names.length-vs.length))[i-(f.names.length-vs.length)]?=some y:=by refine eW gG<|eW qY<|eW (cH (cG.mp hi)) ?_;exact hy
  have hf:fd.scope.names.lookup y=some .free:=eq_of_beq (aH.mp sb y (aF yF));exact⟨yF,(hk y).trans hf,none_of (y:=(none:Option aO)) (λc' q=>by
   have:=lookup_mem QB (cn2 _ (FO▸mem_of_lookup q));exact nomatch(hf.symm.trans this)) rfl⟩
 have hold:∀{i:Nat}{y:bA}{sl:Slot},f.names[i]?=some y->fr[i]?=some sl->i<f.names.length-aX.length->
  cV C G (nN s.heap.objs.size cs (nh f.names fr) bq O) s'.heap i sl (((f.names.take f.params).zip (vals++dv.drop (dv.length-(f.params-vals.length)))).lookup y):=λ{i y sl} hy eE hi=>match(zi hf eE).1 with
  |.arg (e:=e) he h1 eE=>bS (R.get he) λw e1 e2=>by
   refine eW (fR Yo (top hy h1))<|eW (ei (fB e1))<|eW e1<|eW eE ?_;rw[dY]at e2;exact match e,e2 with
   |.fv d,e2=>⟨w,rfl,e2⟩
   |.bor t,e2=>xE e2 λρ e2=>⟨w,rfl,(dM.relabel (λa k e=>oO e) e2).step Cz⟩
   |.own t,e2=>⟨w,rfl,(dM.relabel (λa k e=>VW e) e2).step Cz⟩
  |.dflt h1 h2 hj he eE=>bS ((Rd.drop (f.dflt.length-(f.params-xs.length))).get he) λw e1 e2=>by
   rw[fR Yo (top hy h2),hX (R.length▸h1),R.length,Rd.length,<-hj,e1,eE];exact⟨w,rfl,e2⟩
  |.unset h1 h2 eE=>by
   rw[gp λhm=>xE (ck.mp hm) λj hj=>?_,eE]
   . rfl
   . have oo:j<f.params:=az (fB hj) (by exact eW gf<|pV _ _)
     rw[dH oo]at hj;exact absurd ((jJ (fB hj) nd).mp (hj.trans hy.symm)) (bx (az oo h1))
  |.PM hj _ _=>absurd hi (cG.mpr (hj▸aP _ _))
 have nc:∀{j d},f.names.length-aX.length+j<f.names.length-aX.length->aX[j]?=some d->False:=λh _=>absurd h (cG.mpr (aP _ _));refine⟨by refine eW xR ?_;exact eq_of_beq (rW sp λh _ _=>h),xR▸FA.glob,xR▸FA.bi,nd,D9 hf,λa r e=>?_,λy e=>(hk y).trans e,λy e=>?_,?_,⟨_,hs.toInCall.ns,λi y sl hy eE hl=>?_⟩,λi y sl hy eE QM=>?_,λnm h=>by exact eW xR<|eW hq<|hm nm h,.inr ⟨fd.qualname,xR▸FA.code⟩,λhm i y d hy eE=>?_⟩
 . exact HX e (j8 hs.toInCall.ns λo _ _ ho _=>⟨gM W,gr W,o,WM▸ho⟩)
    (λp hp=>bS (hs.cell p.1 p.2 (lookup_mem (FO▸cn1) hp)) λo ho _=>⟨kg W (new (LI p hp)),gx W (new (LI p hp)),o,ho⟩)
    (λr' e'=>ng (m a _ e') λ_ _ h1 h2 o ho=>⟨h1,h2,o,keep _ _ ho⟩) (λr' e'=>mF (D a r' e') λh1 h2 o ho=>⟨h1,h2,o,keep _ _ ho⟩)
 . exact(iO.mp e).imp (λe=>(hk y).trans (eq_of_beq e)) λe=>(hk y).trans (eq_of_beq e)
 . exact eW WM<|if_pos rfl
 . refine eW (LY Yo hl) ?_
   have hi:i<f.names.length-aX.length:=fg λhi=>nomatch(hl.symm.trans (free hy hi).2.1);exact(Option.or_none (o:=_)).symm▸hold hy eE hi
 . exact if hi:i<f.names.length-aX.length then by
    have MO:env.kindOf y=some .cell:=(iO.mp (aH.mp sa y (aF ((dH (qY▸hi)).trans hy)))).elim (λq=>absurd ((hk y).trans (eq_of_beq q)) QM) λq=>(hk y).trans (eq_of_beq q)
    (refine xE (iM.mp (EK (x:=y) fd.scope.names (s.heap.objs.size+1) [] (.inl ((hk y).symm.trans MO)))) λc hc=>?_)
    rw[<-FO]at hc
    have FP:=hs.cell y c hc;rw[LZ Yo QM]at FP
    have kR:=mem_of_lookup hc
    have hn:=new (LI _ kR)
    have e:=Ec (wr:=nh f.names fr) LI kR (λn h=>Mq hs.apart h kR) (noO hn).1 (noO hn).2;rw[Na nd hy eE]at e;exact⟨.inl MO,c,_,by exact eW D6<|eW lookup_append<|eW hc rfl,by simpa using FP,hold hy eE hi,e,gx W hn,λ_=>MO⟩
   else by
    (refine jN (free hy hi) λyF wo WW=>?_)
    (refine kP (FA.TP _ y yF) λc o v hl hF hd hv=>?_)
    induction (zi hf eE).1 using tu.casesOn with
    |arg _ h1 _=>exact absurd (az h1 (kW g3)) hi
    |dflt _ h1 _ _ _=>exact absurd (az h1 (kW g3)) hi
    |unset _ h1 _=>exact absurd h1 hi
    |PM hj he eE=>
     rw[qY,hj,cW]at hv
     have QQ:=W.sub _ _ hF
     have hcO:=pO (wr:=nh f.names fr) (bq:=bq) (O:=O) LI (bb QQ);rw[show bq c=none from none_of (y:=(none:Option Role)) (λr q=>gone (m c r q).2.2.1 hF) rfl,show O c=none from none_of (y:=(none:Option Role)) (λr q=>gone (D c r q).1 hF) rfl]at hcO;exact eE▸⟨.inr wo,c,some v,by exact eW D6<|eW lookup_append<|eW WW<|eW hl rfl,⟨o,keep _ _ QQ,hd⟩,bS (Rc.get he) λv' e1 e2=>⟨v',hv.symm.trans e1,e2⟩,hcO,BS W hF,λh=>ff h⟩
 . exact match(zi hf eE).1 with
   |.arg (e:=e) _ _ h2=>by induction e using EV.casesOn<;>exact Slot.noConfusion h2
   |.dflt _ _ _ _ h3=>nomatch h3
   |.unset _ _ h3=>nomatch h3
   |.PM hj he h3=>jN (free hy (cG.mpr (hj▸aP _ _))) λyF wo WW=>j8 (FA.TP _ y yF) λc o v hl h=>xA h λhF _=>⟨c,o,by exact eW D6<|eW lookup_append<|eW WW<|eW hl rfl,hF⟩
def qm(C:Cx)(G:Gh):Fl->Flow->Prop
 |.next,.next=>True
 |.cont,.cont=>True
 |.ret d,.ret v=>Rep C G v d
 |_,_=>False
noncomputable def FW:Flow->aB
 |.ret v=>v
 |_=>.none
@[elab_as_elim] theorem z1{α:Type}{P:Flow->Prop}{f:Flow}{a z:α}{g:FV->α}(hf:qm C G f1 f)(q:f1.brk.elim a g=z)(kn:a=z->P .next)(kc:a=z->P .cont)(kr:∀d v,Rep C G v d->g d=z->P (.ret v)):P f:=
  f1.casesOn (motive:=λf1=>qm C G f1 f->f1.brk.elim a g=z->P f) (f.casesOn (motive:=λf=>qm C G .next f->a=z->P f) (λ_=>kn) (λh=>h.elim) (λh=>h.elim) λ_ h=>h.elim)
   (f.casesOn (motive:=λf=>qm C G .cont f->a=z->P f) (λh=>h.elim) (λh=>h.elim) (λ_=>kc) λ_ h=>h.elim)
   (λd=>f.casesOn (motive:=λf=>qm C G (.ret d) f->g d=z->P f) (λh=>h.elim) (λh=>h.elim) (λh=>h.elim) λv h=>kr d v h) hf q
theorem TG{f:Flow}(hf:qm C G f1 f)(q:f1.out=some d):Rep C G (FW f) d:=
 f1.casesOn (motive:=λf1=>qm C G f1 f->f1.out=some d->Rep C G (FW f) d) (f.casesOn (motive:=λf=>qm C G .next f->some FV.none=some d->Rep C G (FW f) d) (λ_ q=>sk q (.none:Rep C G .none .none)) (λh=>h.elim) (λh=>h.elim) λ_ h=>h.elim)
  (λ_ q=>nn q) (λe=>f.casesOn (motive:=λf=>qm C G (.ret e) f->some e=some d->Rep C G (FW f) d) (λh=>h.elim) (λh=>h.elim) (λh=>h.elim) λv h q=>sk q (h:Rep C G v e)) hf q
@[elab_as_elim] theorem TC{α:Type}{P:Flow->Prop}{f:Flow}{a z:α}{g:Fl->α}(hf:qm C G f1 f)(q:(if f1.zL then a else g f1)=z)(kn:a=z->P .next)(kc:g .cont=z->P .cont)(kr:∀d v,Rep C G v d->g (.ret d)=z->P (.ret v)):P f:=
  f1.casesOn (motive:=λf1=>qm C G f1 f->(if f1.zL then a else g f1)=z->P f) (f.casesOn (motive:=λf=>qm C G .next f->a=z->P f) (λ_=>kn) (λh=>h.elim) (λh=>h.elim) λ_ h=>h.elim)
   (f.casesOn (motive:=λf=>qm C G .cont f->g .cont=z->P f) (λh=>h.elim) (λh=>h.elim) (λ_=>kc) λ_ h=>h.elim)
   (λd=>f.casesOn (motive:=λf=>qm C G (.ret d) f->g (.ret d)=z->P f) (λh=>h.elim) (λh=>h.elim) (λh=>h.elim) λv h=>kr d v h) hf q
def PS(C:Cx)(G:Gh)(O:aO->Option Role)(sc:Sc)(ns:List bA)(env:ra)(s:aN)(fl:Fl)(fr:List Slot)(wl:WL)(f:Flow)(s':aN):Prop:=
 ∃G' O',bX C G G' O O' s s'/\bz C G' wl s'.heap/\cL C G' O' sc ns env fr s'.heap/\qm C G' fl f
theorem PS.after{fl':Flow}(x:bX C G G' O O' s s')(y:PS C G' O' sc ns env s' fl fr wl fl' qo):PS C G O sc ns env s fl fr wl fl' qo:=by
 exact gg y λG2 O2 h1 h2=>⟨G2,O2,x.trans h1,h2⟩
theorem PS.back{t:Sem Flow}(x:bX C G G' O O' s s')(h:aK C.M A t (PS C G' O' sc ns env s' fl fr wl) ee b0):aK C.M A t (PS C G O sc ns env s fl fr wl) ee b0:=cX h λ_ _ h=>h.after x
theorem PS.to{t:Sem Flow}{Q:Flow->aN->Prop}(h:aK C.M A t (PS C G O sc ns env s fl fr wl) ee s')(k:∀f aM G' O',bX C G G' O O' s aM->bz C G' wl aM.heap->cL C G' O' sc ns env fr aM.heap->qm C G' fl f->Q f aM):aK C.M A t Q E s':=
 cX h λf aM h=>iP h λG' O' x W F q=>k f aM G' O' x W F q
def jw(C:Cx)(bp:my)(N k:Nat)(sc:Sc)(ns:List bA)(st:bV)(ir:IS):Prop:=
 ∀(G:Gh)(O:aO->Option Role)(env:ra)(A:fF)(s:aN)(fr:List Slot)(wl:WL)(fl:Fl)(cJ:List Slot)(bQ:WL),ex bp N ir (fr,wl)=some (fl,cJ,bQ)->Here C G O sc ns env fr wl k A s->
  aK C.M A (exec st env) (PS C G O sc ns env s fl cJ bQ) ee s
def qM(C:Cx)(bp:my)(N k:Nat)(sc:Sc)(ns:List bA)(b:List bV)(ir:IB):Prop:=
 ∀(G:Gh)(O:aO->Option Role)(env:ra)(A:fF)(s:aN)(fr:List Slot)(wl:WL)(fl:Fl)(cJ:List Slot)(bQ:WL),hU bp N ir (fr,wl)=some (fl,cJ,bQ)->Here C G O sc ns env fr wl k A s->
  aK C.M A (execs b env) (PS C G O sc ns env s fl cJ bQ) ee s
def Co(C:Cx)(bp:my)(N k:Nat)(f:bw)(iS:Option bA)(fd:iU):Prop:=match fd.body,f.body with
 |.stmts b,.stmts ib=>qM C bp N k ⟨fd.scope,iS,4⟩ f.names b ib
 |.expr e,.expr ie=>dS C bp k ⟨fd.scope,iS,4⟩ f.names e ie
 |_,_=>False
def PR(C:Cx)(G:Gh)(O:aO->Option Role)(s:aN)(d:FV)(wl:WL)(r:Result)(s':aN):Prop:=match r with
 |.ok (.ret v)=>PE C G O s (.fv d) wl v s'
 |_=>False
theorem Bn(B:Base C)(W:bz C G wl h):h.NoLimit:=B.nolimit.keeps λb o e=>W.sub _ _ (W.base _ _ e)
def vj(s:aN)(f:bw)(fd:iU)(fr:List Slot)(bq O:aO->Option Role):aO->Option Role:=
 nN s.heap.objs.size (cellsFrom (s.heap.objs.size+1) fd.scope.names []) (nh f.names fr) bq O
theorem bool_no(h:(!b)=true):b=false:=match b,h with|false,_=>rfl
theorem yN{G0:Gh}{aX:List FV}{xs:List EV}{Rz:Result->aN->Prop}
 (B:Base C)(hd:A.depth+8*k+26<900)(hu:A.units+24*k+80<9000)(hh:A.handled=none)
 (W:bz C G wl s.heap)(FA:FnAt C G.F fa f vs fd)(cf:CF f vs.length iS fd)(hm:∀nm,iS=some nm->∃c P,fd.code=.ref c/\(c,P)∈C.tabs/\fd.qualname++".<locals>."++nm=C.tq P)(x:Step C G0 G s0 s)(D0:I1 C G0 O s0.heap)
 (m:Cv C G s0.heap s.heap bq)(R:dB C G O bq s.heap 0 vals xs)(Rd:bB C G dv f.dflt)(Rc:bB C G vs aX)(dl:dv.length<=f.params)
 (hs:∀(M:Model)(A:fF)(E:aB->aN->Prop)(Q:Option (Array aB)->aN->Prop),(∀r:Option (Array aB),(r.getD #[]).toList=dv->Q r s)->aK M A (seqItems? fd.defaults) Q E s)
 (hf:lD f aX xs=some fr)
 (hb:∀env s',Here C G (vj s f fd fr bq O) ⟨fd.scope,iS,4⟩ f.names env fr wl k (A.deeper env) s'->Step C G G s s'->match fd.body with
   |.stmts b=>aK C.M (A.deeper env) (execs b env) (λfl s2=>Rz (.ok (.ret (match fl with|.ret v=>v|_=>.none))) s2) ee s'
   |.expr e=>aK C.M (A.deeper env) (eval e env) (λv s2=>Rz (.ok (.ret v)) s2) ee s'):
 codeAny C.M A (.call (.ref fa) ⟨vals,[]⟩) Rz s:=by
 (refine fA (nK hf) λh1 h2 h3 _=>?_)
 have hlen:=R.length
 have hdl:=Rd.length;refine an cf.scope λsd _=>an sd λsd _=>TZ sd λsp nd hn sa _ _ _=>rW sp λsp1 sp2 xp=>?_;replace nd:=of_decide_eq_true nd;clear sd
 have QL:A.depth<recursionLimit:=dk (aQ (ak (aP _ (8*k)) (aP _ 26)) hd) (by decide:900<1000)
 have qY:=Rc.length
 have enter:∀(Q:ra->aN->Prop),(∀env s',Here C G (vj s f fd fr bq O) ⟨fd.scope,iS,4⟩ f.names env fr wl k (A.deeper env) s'->Step C G G s s'->Q env s')->
  ∀E,aK C.M A.in1 (bindArgs fd ⟨vals,[]⟩) (λbinds aM=>aK C.M A.in1 (newFunctionEnv fd.scope fd.globals fd.closure binds (fd.qualname++".<locals>.") (some fa) fd.code none fd.builtins) Q E aM) E s:=λQ hQ E=>by
  have hp:f.params<=f.names.length:=ak (aP _ _) h3;refine PQ cf.params (nd.sublist (My _ _)) hp (hlen▸h1) (hlen▸hdl▸h2) dl (hs _ _ _) ?_;refine Oo (eq_of_beq sp1) (λy hy=>xE (ck.mp (List.of_mem_zip hy).1) λi hi=>?_) λenv xR s' yD=>?_
  . have oo:i<f.params:=az (fB hi) (by exact eW gf<|pV _ _)
    rw[dH oo]at hi;exact(iO.mp (aH.mp sa y.1 (aF ((dH (az oo (kW (qY▸h3)))).trans hi)))).imp eq_of_beq eq_of_beq
  . have Cz:Step C G G s s':=u_ yD.toInCall.same λh' tk e=>by subst e;exact .grow h' tk yD.toInCall.keep
    refine hQ env s' ⟨B,⟨hh,?_,?_⟩,W.grow λa o e=>yD.toInCall.keep a o e,Pr W FA cf hm rfl x D0 m R Rd Rc hf rfl xR yD⟩ Cz
    . show A.depth+1+8*k+4+20<900;exact eW (dc A.depth 1 ..)<|aQ (ct (show 25<=26 by decide) (A.depth+8*k)) hd
    . show A.units+3+24*k+3*4+60<9000;exact eW (dc A.units 3 ..)<|aQ (ct (show 75<=80 by decide) (A.units+24*k)) hu
 (refine bS (FA.obj) λbo hbo hbd=>?_)
 induction Tp:fd.body using g7 with
 |stmts b=>
  rw[Tp]at hb;refine codeAny_call_function QL (W.sub _ _ hbo) hbd (bool_no xp) (bool_no sp2) Tp (FA.code.recIn W.sub) (enter _ (λenv s' H Cz=>?_) _);exact⟨Bn B H.W,codeAny_func (dQ (hb env s' H Cz) (λ_ _ q=>q) λ_ _ q=>q.elim)⟩
 |expr e=>
  rw[Tp]at hb;refine kla_callFunE QL (W.sub _ _ hbo) hbd (bool_no xp) (bool_no sp2) Tp (FA.code.recIn W.sub) (enter _ (λenv s' H Cz=>?_) _);exact⟨Bn B H.W,kla_codeExpr (dQ (hb env s' H Cz) (λ_ _ q=>q) λ_ _ q=>q.elim)⟩
theorem yk{G0:Gh}(x:Step C G0 G s0 s)(m:Cv C G s0.heap s.heap bq):∀a o,s0.heap.get? a=some o->¬qk (vj s f fd fr bq O) a:=λa o e q1=>bS q1 λr' hr hl=>by
 exact xE (x.alive a o e) λo' pZ=>Qx ((pO (λp hp=>of_decide_eq_true (aH.mp (fY fd.scope.names (s.heap.objs.size+1)) p hp)) (bb pZ)).symm.trans hr) (λe2=>gone (m a r' e2).1 e) λe2=>Ap e2 λ_ _ e=>hl (ag e).symm
theorem Gg{G0:Gh}{aX:List FV}{xs:List EV}{r:FV}
 (B:Base C)(hd:A.depth+8*k+26<900)(hu:A.units+24*k+80<9000)(hh:A.handled=none)
 (W:bz C G wl s.heap)(FA:FnAt C G.F fa f vs fd)(cf:CF f vs.length iS fd)(hm:∀nm,iS=some nm->∃c P,fd.code=.ref c/\(c,P)∈C.tabs/\fd.qualname++".<locals>."++nm=C.tq P)(x:Step C G0 G s0 s)(D0:I1 C G0 O s0.heap)
 (T:u7 C G O s0.heap s.heap 0 vals xs)(Rd:bB C G dv f.dflt)(Rc:bB C G vs aX)(dl:dv.length<=f.params)
 (hs:∀(M:Model)(A:fF)(E:aB->aN->Prop)(Q:Option (Array aB)->aN->Prop),(∀r:Option (Array aB),(r.getD #[]).toList=dv->Q r s)->aK M A (seqItems? fd.defaults) Q E s)
 (hb:Co C bp N k f iS fd)(he:C6 bp N f aX xs wl=some (r,bQ)):
 codeAny C.M A (.call (.ref fa) ⟨vals,[]⟩) (PR C G0 O s0 r bQ) s:=by
 refine ob he λfr hf he=>bS T λbq m R=>?_;refine yN (fr:=fr) B hd hu hh W FA cf hm x D0 m.w R Rd Rc dl hs hf λenv s' H Cz=>?_
 have out:=yk (fr:=fr) (O:=O) (f:=f) (fd:=fd) x m.w
 revert hb he
 delta Co;induction f.body using Body.casesOn with
 |stmts ib=>induction fd.body using g7 with
  |expr e=>exactλhb=>hb.elim
  |stmts b=>exactλhb he=>f9 he λfl y To D5=>tM D5 λd D5=>PS.to (hb G _ env (A.deeper env) s' fr wl fl y.1 y.2 To H) λXp s2 G2 O2 y1 W2 F2 hfl=>⟨G2,bX.out (x.trans Cz) y1 out,W2,TG hfl D5⟩
 |expr ie=>induction fd.body using g7 with
  |stmts b=>exactλhb=>hb.elim
  |expr e=>exactλhb he=>f9 he λev' w2 To D5=>tM D5 λd D5=>PE.to (hb.v G _ env (A.deeper env) s' fr wl ev' w2 To H) λw s2 G2 y1 W2 R2=>⟨G2,(x.trans Cz).trans y1,W2,(eg (P:=λe=>cE C G2 (vj s f fd fr bq O) s'.heap s2.heap w e->Rep C G2 w d) D5 λR=>R) R2⟩
def pn(M:Model)(f:aB)(h:eu):Prop:=∃k,(k=Keeper.frame\/k=Keeper.machine\/k=Keeper.boundFrame)/\Looks M h (keeperOf f) k
def w_(C:Cx)(bp:my)(k:Nat):Prop:=
 ∀(d:FV)(xs:List EV)(wl:WL)(r:FV)(bQ:WL),bp d xs wl=some (r,bQ)->∀(G0 G:Gh)(O:aO->Option Role)(s0 s:aN)(A:fF)(f:aB)(vals:List aB),
  Base C->A.handled=none->A.depth+8*k+20<900->A.units+24*k+60<9000->bz C G wl s.heap->Step C G0 G s0 s->I1 C G0 O s0.heap->Rep C G f d->u7 C G O s0.heap s.heap 0 vals xs->
  pn C.M f s.heap/\aK C.M A (call f vals []) (PE C G0 O s0 (.fv r) bQ) ee s
theorem pH{pos:dK}(L:fO (dS C bp k sc ns) es il):(backTo pos (starEach es env)).any (·.1)=false/\(backTo pos (starEach es env)).all (!·.1)=true:=
 L.ind ⟨rfl,rfl⟩ λe es a il La _ ih=>by
  exact eW (mG La.star)<|⟨(mZ _).trans ih.1,(gQ _).trans ih.2⟩
theorem sS{pos:dK}{f:aB}{M:Model}{Q:Args->aN->Prop}(L:fO (dS C bp k sc ns) es il):
 aK M A (spliced (backTo pos (starEach es env))) (λvs aM=>Q ⟨vs,[]⟩ aM) E s->aK M A (evalArgs f true (backTo pos (starEach es env)) []) Q E s:=
 L.cases (λh=>by
  unfold evalArgs
  show aK M A (spliced []>>=_) Q E s;exact ai (dQ h (λvs s' h'=>ai (ar (bM (ai (ar (ai (ar (ar h')))))))) λ_ _ q=>q)) λe es a il La _ h=>by
  rw[mG La.star]at h⊢;exact qh h
theorem pJ(H:Here C G O sc ns env fr wl k A s):A.depth+8*k+20<900/\A.units+24*k+60<9000:=⟨aQ (iq (aP _ _) 20) H.room.depth,aQ (iq (aP _ _) 60) H.room.units⟩
theorem room_in(H:Here C G O sc ns env fr wl k A s)(Ar:sc.lv=lv+1):A.depth+8*k+lv+20<900/\A.units+24*k+3*lv+60<9000:=⟨aQ (iq (ct (Ar▸ip lv) _) 20) H.room.depth,aQ (iq (ct (iY 3 (Ar▸ip lv)) _) 60) H.room.units⟩
theorem B_{f:af}{pos:dK}(hn:notAttr f=true):eval (.Call f es [] pos) env=(do callWith pos (<-eval f env) [] (backTo pos (starEach es env)) (backToKw pos (keywordEach [] env))):=by
 induction f using bF<;>first|rfl|exact ff hn
theorem s_call{f:af}{g:IE}{pos:dK}(hc:w_ C bp k)(hf:dS C bp k sc ns f g)(hn:notAttr f=true)(L:fO (dS C bp k sc ns) es il):
 dS C bp k sc ns (.Call f es [] pos) (.call g il):=
 .mk' (λG O env A s fr wl e bQ q H=>f9 (FY.symm.trans q) λx w1 q1 q=>f9 q λxs w2 q2 q=>ob q λd hd q=>tM q λy q4=>by
  refine eW (B_ hn) ?_;refine ai (hf.run H q1 λv aM G1 x1 H1 R1=>?_)
  have R1:Rep C G1 v d:=(eg (P:=λx=>cE C G1 O s.heap aM.heap v x->Rep C G1 v d) hd λR=>R) R1;refine P_ (P:=λh=>pn C.M v h) (by refine eW ((pH (pos:=pos) (env:=env) L).1) ?_;rfl) (λ_ p=>p) (sS L (cX (qz L G1 O env A aM fr w1 xs w2 pos 0 q2 H1) λvs b0 h=>dT h λG2 x2 W2 T=>?_))
  have p:=hc d xs w2 y.1 y.2 q4 G1 G2 O aM b0 A v vs H.base H.room.handled (pJ H).1 (pJ H).2 W2 x2 H1.F.iK (R1.mono x2.ext) T;exact⟨p.1,PE.back x1 p.2⟩) (λ_ _=>rfl) (λ_ _=>dg rfl) rfl
theorem HR(h:∀e∈i3,∃t j,e.key=.str (attrName j) t/\(attrName j==name)=false):getL name i3=some none:=by
 unfold getL;rw[show i3.find? (λe=>e.key.isStr name)=none from jh.mpr λe he=>gg (h e he) λt j hk hn c=>by rw[hk]at c;exact ay (hn.symm.trans c)];dsimp only;rw[show i3.any (·.refKey)=false from MA.mpr λe he=>gg (h e he) λt j hk hn=>by unfold EM;exact eW hk<|ay];rfl
theorem vX:∀{i3:List b7}{ks:List Nat},KeysAre i3 ks->∀e∈i3,∃t j,e.key=.str (attrName j) t/\j<15
 |[],_,_,_,h=>(nomatch h)
 |e::r,k::r',h,e',he=>(a6.mp he).elim (λq=>xE h.1 λt ht=>⟨t,k,q▸ht,h.2.1⟩) (vX h.2.2 e')
 |_::_,[],h,_,_=>h.elim
theorem tT(y:gb C G O h ρ i3 fs):∀e∈i3,∃t j,e.key=.str (attrName j) t/\j<15:=
 y.ind (λ_ h=>absurd h a8) λ_ _ p _ a b _ _ ih e' he=>(a6.mp he).elim (λq=>xE a λt ht=>⟨t,p.1,q▸ht,b⟩) (ih e')
theorem OQ{e:EV}(W:bz C G wl s.heap)(R:cE C G O h₀ s.heap v e)(hc:Gf e=some c):
 ∃a d i3 n,v=.ref a/\(CT c).isSome=true/\InstAt s.heap a (instObj c d) c (some (dictOf i3 n))/\∀e∈i3,∃t j,e.key=.str (attrName j) t/\j<15:=
 (EV.Ad (P:=λe=>cE C G O h₀ s.heap v e->_) hc (λd h R=>om h λx h1=>(FV.rO (P:=λd=>Rep C G v d->_) h1 λR=>m8 R.inv λa dx i3 n hv q=>kI q λz a b r q=>⟨_,_,_,_,hv,z,⟨W.sub _ _ a,rfl,rfl,W.sub _ _ b⟩,vX q⟩) R)
   λt h R=>om h λx h1=>xE R λρ R=>(OT.rO (P:=λt=>dM C G O s.heap (λk=>some (ρ k)) v t->_) h1 λR=>xA R λhc R=>jE R λa d i3 n R=>iQ R λhv _ _ _ h1 R=>uC R λ_ _ _ _ h2 q _=>⟨a,d,i3,n,hv,hc,⟨h1,rfl,rfl,h2⟩,tT q⟩) R) R
theorem Dx{f:Nat}(h:oV c j=some f):20<=j/\j<25:=
 have no:∀{n:Nat},j=n->20<=n/\n<25->20<=j/\j<25:=λe h=>e▸h
 dU h λ_ h=>se h (λe _=>no e (by decide)) λ_ h=>se h (λe _=>no e (by decide)) λ_ h=>se h (λe _=>no e (by decide)) λ_ h=>se h (λe _=>no e (by decide)) λ_ h=>dU h λe _=>no e (by decide)
theorem OK{o:jX}{M:Model}(ho:h.get? a=some o)(hd:o.data=.func fd):pn M (.ref a) h:=by
 obtain⟨c,d,dt,sl⟩:=o;dsimp only at hd;subst hd;exact⟨.frame,.inl rfl,(Looks.ld (part:=none) ho).andThen .now⟩
theorem Hs{pos:dK}(L:fO (dS C bp k sc ns) es il)(hn:es.length<29):methodCallForm (es.length+([]:List Keyword).length) (backTo pos (starEach es env)) (backToKw pos (keywordEach [] env))=true:=by
 unfold methodCallForm;exact eW ((pH (pos:=pos) (env:=env) L).2)<|decide_eq_true (dm hn)
theorem R4{o:af}{g:IE}{pos:dK}(hc:w_ C bp k)(ho:dS C bp k sc ns o g)(hx:x=(ME.user j).word)(hs:mJ o=true)(L:fO (dS C bp k sc ns) es il)
 (hl:(p.endLine==pos.line)=true)(hn:es.length<29):dS C bp k sc ns (.Call (.Attribute o x p) es [] pos) (.ef (.user j) g il):=
 .mk' (λG O env A s fr wl e bQ q H=>f9 (FX.symm.trans q) λy w1 q1 q=>f9 q λxs w2 q2 q=>ob q λc qY q=>ob q λa hm q=>tM q λz q4=>by
  refine eW (arm_eval_Call ..) ?_;refine ai (Cj hs (ho.run H q1 λv aM G1 x1 H1 R1=>ai (cc (jE (OQ H1.W R1 qY) λad d i3 n h=>fA h λhv HQ I hk=>?_))));subst hv
  (refine jN (H.base.wM c HQ) λg1 g2 _=>?_)
  (refine mF (H.base.ef c j a hm) λm1 m2 mo m3=>?_)
  (refine xA (Dx hm) λr1 r2=>?_)
  have WB:x=attrName j:=hx
  have Z6:methodCallPos true o env p pos=pure pos:=by unfold methodCallPos;simp[hl]
  unfold methodCall;refine eW (Hs L hn) ?_;refine ai (bM ?_)
  show aK C.M A (getMethod (.ref ad) x _) _ _ _;refine eW WB ?_;refine method_fn (QF H.base H1.W) I g1 g2 m1 m2 (by
   show(lookIn (attrName j) (dictOf i3 n)).map _=_;rw[lookIn_dict,HR λe he=>gg (hk e he) λt i h1 h2=>⟨t,i,h1,(o8 i (az h2 (by decide)) j r2).trans (beq_eq_false_iff_ne.mpr λe=>absurd (az h2 (ak (by decide) r1)) (e▸b9 _))⟩];rfl) ?_
  dsimp only;refine eW Z6 ?_;refine ai (ar (P_ (P:=λh=>pn C.M (.ref a) h) (by refine eW ((pH (pos:=pos) (env:=env) L).1) ?_;rfl) (λ_ p=>p) (sS L (cX (qz L G1 O env A aM fr w1 xs w2 pos 1 q2 H1) λvs b0 h=>dT h λG2 x2 W2 T=>?_))));exact hc (.obj a) (y::xs) w2 z.1 z.2 q4 G G2 O s b0 A (.ref a) (.ref ad::vs) H.base H.room.handled (pJ H).1 (pJ H).2 W2 (x1.trans x2) H.F.iK (.obj m3) (B1 x1 R1 x2 T)) (λ_ _=>rfl) (λ_ _=>dg rfl) rfl
def c7(h h':eu)(a:aO):Prop:=∀o,h.get? a=some o->h'.get? a=some o
theorem dI.at_{o:OB}(q:∀a,O a=r->c7 h h' a)(y:dI C G O h r v o):dI C G O h' r v o:=m9 y λa hv hO lC hF c=>
 have k:=q a hO
 ⟨a,hv,hO,lC,hF,o.casesOn (λxs c=>gg c λvs n e q=>⟨vs,n,k _ e,q⟩) (λes c=>AA c λhs f vs e q1 q2 q3 q4=>xE (fZ e) λo ho=>⟨hs,f,vs,lz k e,q1,q2,lh k ho q3,q4⟩) (λxs c=>⟨oJ k c.1,c.2.1,c.2.2.at_ k⟩) c⟩
theorem gw.at_(q:∀a i,j<=i->O a=ρ i->c7 h h' a)(y:gw C G O h ρ j vs iG):gw C G O h' ρ j vs iG:=
 y.ind (P:=λj vs iG=>(∀a i,j<=i->O a=ρ i->c7 h h' a)->gw C G O h' ρ j vs iG) (λ_ _=>trivial) (λj _ _ _ _ x _ ih q=>⟨x.at_ λa e=>q a j (aT _) e,ih λa i hi e=>q a i (fN hi) e⟩) q
theorem f6.at_{o:OF}(q:∀a,O a=r->c7 h h' a)(y:f6 C G O h r v o):f6 C G O h' r v o:=match o,y with
 |.fv _,y=>y
 |.ob _,y=>dI.at_ q y
theorem gb.at_{es:List b7}(q:∀a k,k∈fs.map (·.1)->O a=ρ (k+2)->c7 h h' a)(y:gb C G O h ρ es fs):gb C G O h' ρ es fs:=
 y.ind (P:=λes fs=>(∀a k,k∈fs.map (λp:Nat×OF=>p.1)->O a=ρ (k+2)->c7 h h' a)->gb C G O h' ρ es fs) (λ_=>trivial) (λ_ _ p _ a b c _ ih q=>⟨a,b,c.at_ λa e=>q a p.1 a7 e,ih λa j hj e=>q a j (aW p.1 hj) e⟩) q
theorem dM.at_(q:∀a k,O a=ρ k->c7 h h' a)(y:dM C G O h ρ v t):dM C G O h' ρ v t:=match t,y with
 |.ob o,y=>dI.at_ (λa e=>q a 0 e) y
 |.gu iG,y=>j8 y λa vs n hv y=>kI y λhO h1 h2 e p=>⟨a,vs,n,hv,hO,h1,h2,q _ _ hO _ e,p.at_ λa i _ e=>q a i e⟩
 |.inst c fs,y=>xA y λhc y=>jE y λa d i3 n y=>iQ y λhv hO lC hF e y=>uC y λuP Pb QV BN ed p hn=>⟨hc,a,d,i3,n,hv,hO,lC,hF,q _ _ hO _ e,uP,Pb,QV,BN,q _ _ uP _ ed,p.at_ λa k _ e=>q a _ e,hn⟩
theorem cV.move(q:∀a r,O a=some r->(r=.ki\/∃k,r=.own i k)->O' a=some r/\c7 h h' a)(y:cV C G O h i sl ov):cV C G O' h' i sl ov:=match sl,y with
 |.unset,y=>y
 |.val d,y=>y
 |.ro d,y=>y
 |.own t,y=>bS y λv e p=>⟨v,e,dM.relabel (O':=O') (M7:=λk=>some (.own i k)) (λa k e=>(q a _ e (.inr ⟨k,rfl⟩)).1) (p.at_ λa k e=>(q a _ e (.inr ⟨k,rfl⟩)).2)⟩
 |.bor t,y=>bS y λv e p=>⟨v,e,dM.relabel (O':=O') (M7:=λ_=>some .ki) (λa k e=>(q a _ e (.inl rfl)).1) (p.at_ λa k e=>(q a _ e (.inl rfl)).2)⟩
theorem cV.as{o1 o2:Option aB}(e:o1=o2)(y:cV C G O h i sl o1):cV C G O h i sl o2:=e▸y
theorem yX{b:aO}{o:jX}(sb:cS a h h')(al:∀o,h.get? a=some o->∃o',h'.get? a=some o')(e:h.get? b=some o):∃o',h'.get? b=some o':=if q:b=a then q▸al o (q▸e)else⟨o,(sb.2 b q).trans e⟩
theorem bX.mod{t:Nat}(x:bX C G G' O O' s s')(n:s.heap.get? a=none\/qk O a)(sb:cS a s'.heap h')(al:∀o,s'.heap.get? a=some o->∃o',h'.get? a=some o'):bX C G G' O O' s {s' with heap:=h',toks:=t}where
 ext:=x.ext
 keep:=λb o f hn e=>(sb.2 b λq=>n.elim (λn=>gone n (q▸e)) λn=>hn (q▸n)).trans (x.keep b o f hn e)
 alive:=λb o e=>xE (x.alive b o e) λ_ e'=>yX sb al e'
 lx:=x.lx
 kB:=x.kB
 own:=x.own
 Oi:=x.Oi
 Nv:=x.Nv
 gens:=x.gens
 os:=x.os
theorem set_slot(e:setSlot fr i sl=some cJ):∃old,fr[i]?=some old/\old.writable=true/\cJ=fr.set i sl:=ob e λo h e=>dU e λhw e=>⟨o,h,hw,(ag e).symm⟩
theorem vF(nd:ns.Nodup)(h:ns[i]?=some x)(h':ns[j]?=some x):j=i:=((jJ (fB h) nd).mp (h.trans h'.symm)).symm
theorem get_set{xq:Slot}(h:(fr.set i sl)[j]?=some xq)(k1:j=i->sl=xq->P)(k2:j≠i->fr[j]?=some xq->P):P:=
 if q:j=i then k1 q (ag ((cu (by have:=fB h;rw[lq]at this;exact q▸this)).symm.trans (q▸h)))else k2 q ((b_ (d5 q)).symm.trans h)
def Named(r:Role):Prop:=r≠.ki/\∀i k,r≠.own i k
theorem Named.loc:Named .loc:=⟨nofun,nofun⟩
theorem Named.cell:Named (.cell x):=⟨nofun,nofun⟩
theorem Named.ne{b:aO}{r0 r:Role}(n:Named r0)(ha:O a=some r0)(hb:O b=some r)(hk:r=.ki\/∃k,r=.own j k):b≠a:=λq=>
 have e:r0=r:=ag (ha.symm.trans (q▸hb))
 hk.elim (λh=>n.1 (e.trans h)) λh=>xE h λk h=>n.2 j k (e.trans h)
theorem vi(W:bz C G wl s.heap)(F:cL C G O sc ns env fr s.heap)(hx:ns[i]?=some x)(hs:setSlot fr i sl=some cJ)(hw:sl.writable=true)
 (D':I1 C G O' s.heap)(hO:∀a r,O a=some r->(∀k,r≠.own i k)->O' a=some r)(Ti:∀a r,O' a=some r->(∃k,r=.own i k)\/O a=some r)
 (lC:∀a k,O' a=some (.own i k)->O a=some (.own i k)\/∀(j:Nat)(y:bA),ns[j]?=some y->env.kindOf y≠some .local->env.cells.lookup y≠some a)
 (S:cV C G O' s.heap i sl (some v)){M:Model}{Q:Unit->aN->Prop}
 (h:∀s' a,bz C G wl s'.heap->cL C G O' sc ns env cJ s'.heap->(∃h' tk,s'={s with heap:=h',toks:=tk})->cS a s.heap s'.heap->(∃r,O a=some r/\r≠.ki/\∀i k,r≠.own i k)->(∀o,s.heap.get? a=some o->∃o',s'.heap.get? a=some o')->Q () s'):
 aK M A (storeName env x v) Q E s:=by
 (refine dT (set_slot hs) λold ho Yp q1=>?_;subst q1)
 clear hs
 have C7:∀{c:aO}{r:Role},O c=some r->Named r->O' c=some r:=λh1 h2=>hO _ _ h1 (h2.2 i)
 have Q6:∀{j:Nat}{y:bA}{w:Bool}{c:aO}{o:jX},ns[j]?=some y->env.kindOf y≠some .local->env.cells.lookup y=some c->O c=(if w=true then some (.cell y)else none)->O' c=(if w=true then some (.cell y)else none):=λ{j y w c o} hy uh e1 e4=>match w,e4 with
  |true,e4=>C7 e4 .cell
  |false,e4=>none_of (y:=(none:Option Role)) (λr q=>(Ti c r q).elim (λhq=>xE hq λk e=>(lC c k (e▸q)).elim (λq=>gone e4 q) λq=>absurd e1 (q j y hy uh)) λq'=>gone e4 q') rfl
 have Zu:sc.iS.isSome=true->∀(j:Nat)(y:bA)(d:FV),ns[j]?=some y->(fr.set i sl)[j]?=some (.ro d)->∃c o,env.cells.lookup y=some c/\G.F c=some o:=λhm j y d hy eE=>get_set eE (λ_ e=>ff (e▸hw:(Slot.ro d).writable=true)) λ_ eE=>F.ro hm j y d hy eE
 have go:∀{h':eu}{tk:Nat}{a:aO}{r:Role},O a=some r->Named r->cS a s.heap h'->(∀o,s.heap.get? a=some o->∃o',h'.get? a=some o')->
  (∃m,h'.Ns env.locals m/\∀j y xq,ns[j]?=some y->(fr.set i sl)[j]?=some xq->env.kindOf y=some .local->(j=i->m y=some v)/\(j≠i->cV C G O s.heap j xq (m y)))->
  (∀j y,ns[j]?=some y->env.kindOf y≠some .local->∀c ov,env.cells.lookup y=some c->s.heap.IsCell c ov->(j=i->h'.IsCell c (some v))/\(j≠i->∀w:Bool,O c=(if w=true then some (.cell y)else none)->c≠a))->
  Q () {s with heap:=h',toks:=tk}:=λ{h' tk a r} ha n sb al hl hc=>by
  have other:∀{j:Nat}{xq:Slot}{ov:Option aB},j≠i->cV C G O s.heap j xq ov->cV C G O' h' j xq ov:=λ{j xq ov} hj S=>
   S.move λb r' hb hk=>⟨hO b r' hb λk e=>hk.elim (λq=>nomatch(q.symm.trans e)) λq=>xE q λk' q=>hj (Role.own.inj (q.symm.trans e)).1,λo e=>(sb.2 b (n.ne ha hb hk)).trans e⟩
  have here:cV C G O' h' i sl (some v):=S.move λb r' hb hk=>⟨hb,λo e=>(sb.2 b (n.ne (C7 ha n) hb hk)).trans e⟩
  have dl:=F.iK _ _ ha;refine h _ a (W.mod dl.1 dl.2.1 sb) ⟨F.fn,F.glob,F.bi,F.nodup,lq.trans F.len,λb r e=>mF (D' b r e) λh1 h2 o h3=>⟨h1,h2,yX sb al h3⟩,F.gl,F.cl,C7 F.lN .loc,?_,λj y xq hy eE uh=>?_,F.iS,F.code,Zu⟩ ⟨h',tk,rfl⟩ sb ⟨r,ha,n⟩ al
  . exact bS hl λm hm hl=>⟨m,hm,λj y xq hy eE uh=>have q:=hl j y xq hy eE uh;get_set eE (λhj e=>by subst hj;subst e;exact(q.1 rfl).symm▸here) λhj _=>other hj (q.2 hj)⟩
  . refine get_set eE (λhj e=>?_) λhj eE=>?_
    . subst hj;subst e
      exact xA (F.p9 j y old hy ho uh) λsO q=>iH q λc ov e1 e2 e3 e4 q=>⟨sO,c,some v,e1,(hc j y hy uh c ov e1 e2).1 rfl,here,hw.symm▸Yp▸Q6 (w:=old.writable) (o:=⟨.none,.none,.plain,#[]⟩) hy uh e1 e4,q.1,λ_=>q.2 Yp⟩
    . exact xA (F.p9 j y xq hy eE uh) λsO q=>iH q λc ov e1 e2 e3 e4 q=>⟨sO,c,ov,e1,bS e2 λoc Lz aaK=>⟨oc,(sb.2 c ((hc j y hy uh c ov e1 e2).2 hj _ e4)).trans Lz,aaK⟩,other hj e3,Q6 (o:=⟨.none,.none,.plain,#[]⟩) hy uh e1 e4,q⟩
 exact if hk:env.kindOf x=some .local then bS F.loc λm hm hl=>MR hk hm (λh' hn O8=>go F.lN .loc O8 (λ_ _=>j8 hn λo _ _ ho _=>⟨o,ho⟩)
  ⟨_,hn,λj y xq hy eE uh=>⟨λhj=>by subst hj;rw[hx]at hy;cases hy;simp,λhj=>get_set eE (λe _=>absurd e hj) λ_ eE=>(hl j y xq hy eE uh).as (by simp[show y≠x fromλe=>hj (vF F.nodup hx (e▸hy))])⟩⟩
  λj y hy uh c ov e1 e2=>⟨λhj=>absurd (by subst hj;rw[hx]at hy;exact ag hy▸hk) uh,λ_ w e4 q=>by subst q;rw[F.lN]at e4;induction w using ax<;>cases e4⟩) (by exact eW F.fn rfl)
  else xA (F.p9 i x old hx ho hk) λ_ q=>iH q λc ov e1 FP e3 e4 q=>by
   rw[Yp,if_pos rfl]at e4
   have aaq:c≠env.locals:=λq=>by rw[q,F.lN]at e4;cases e4
   exact P9 F.fn (q.2 Yp) e1 FP λh' qY O8=>bS F.loc λm hm hl=>go (tk:=s.toks) e4 .cell O8 (λ_ _=>bS qY λo ho _=>⟨o,ho⟩)
    ⟨m,hm.at' λo e=>(O8.2 _ (d5 aaq)).trans e,λj y xq hy eE uh=>⟨λhj=>absurd (by subst hj;rw[hx]at hy;exact ag hy▸uh) hk,λhj=>get_set eE (λe _=>absurd e hj) λ_ eE=>hl j y xq hy eE uh⟩⟩
    λj y hy uh c' ZF e1' Lz=>⟨λhj=>by subst hj;rw[hx]at hy;cases hy;rw[e1]at e1';cases e1';exact qY,λhj w e4' q=>by
     subst q;rw[e4]at e4';induction w using ax with
     |true=>cases e4';exact hj (vF F.nodup hx hy)
     |false=>cases e4'⟩
theorem FN(hr:∃r,O a=some r/\r≠.ki/\∀i k,r≠.own i k):qk O a:=dT (hr) λr h1 h2 _=>⟨r,h1,h2⟩
theorem cL.extend(F:cL C G O sc ns env fr h)(h1:∀a r,O a=some r->O' a=some r)
 (h2:∀a r,O' a=some r->O a=some r\/∀(j:Nat)(y:bA),ns[j]?=some y->env.kindOf y≠some .local->env.cells.lookup y≠some a)(D':I1 C G O' h):cL C G O' sc ns env fr h where
 fn:=F.fn
 glob:=F.glob
 bi:=F.bi
 nodup:=F.nodup
 len:=F.len
 iK:=D'
 gl:=F.gl
 cl:=F.cl
 lN:=h1 _ _ F.lN
 loc:=bS (F.loc) λm hm q=>⟨m,hm,λi x s e1 e2 e3=>(q i x s e1 e2 e3).move λa r e _=>⟨h1 a r e,λ_ e=>e⟩⟩
 p9:=λi x s e1 e2 e3=>by
  (refine fo (F.p9 i x s e1 e2 e3) λhk c ov q1 q2 q3 q4 q5 q6=>?_)
  refine⟨hk,c,ov,q1,q2,q3.move λa r e _=>⟨h1 a r e,λ_ e=>e⟩,?_,q5,q6⟩;induction hw:s.writable using ax with
  |true=>rw[hw,if_pos rfl]at q4;exact eW (if_pos rfl)<|h1 _ _ q4
  |false=>
   rw[hw,if_neg ay]at q4;refine eW (if_neg ay) ?_;induction q:O' c using aA with
   |none=>rfl
   |some r=>
    rcases h2 c r q with q'|q'
    . rw[q4]at q';exact nn q'
    . exact absurd q1 (q' i x e1 e3)
 iS:=F.iS
 code:=F.code
 ro:=F.ro
noncomputable def oq(O bq:aO->Option Role)(is:List Nat)(a:aO):Option Role:=match bq a with
 |some (.own j k)=>some (.own (is.getD j 0) k)
 |_=>O a
theorem rr{G0:Gh}(x:Step C G0 G s0 s)(m:nV C G s0.heap s.heap 0 bq):bX C G0 G O (oq O bq is) s0 s where
 ext:=x.ext
 keep:=λa o f _ e=>x.keep a o f e
 alive:=x.alive
 lx:=λa o e=>(x.lx a o e).imp id .inl
 kB:=x.kB
 own:=λa o e hn q1=>bS q1 λr h1 h2=>by
  unfold oq at h1;split at h1
  . rename_i j k e1
    have:=(m a _ e1).1;rw[e]at this;exact nn this.symm
  . exact hn ⟨r,h1,h2⟩
 Oi:=λa o e hn=>by
  unfold oq;split
  . rename_i j k e1
    have:=(m a _ e1).1;rw[e]at this;exact nn this.symm
  . exact hn
 Nv:=λa i h=>by
  unfold oq at h;split at h
  . rename_i j k e1
    (refine jN (m a _ e1) λ_ q2=>?_;obtain⟨j',k',q,_,q2⟩:=q2;intro _)
    cases q;simp only[qj,Role.own.injEq]at h;exact absurd h.2 q2
  . exact h
 gens:=x.gens
 os:=x.os
theorem cL.zD{G0:Gh}(F0:cL C G0 O sc ns env fr s0.heap)(x:Step C G0 G s0 s)(m:nV C G s0.heap s.heap 0 bq):cL C G (oq O bq is) sc ns env fr s.heap:=by
 have F:=F0.step x
 have old:∀a r,O a=some r->bq a=none:=λa r e=>by
  (refine mF (F0.iK a r e) λ_ _ o ho=>?_)
  induction q:bq a using aA with
  |none=>rfl
  |some r'=>have:=(m a r' q).1;rw[ho]at this;exact nn this.symm
 refine F.extend (λa r e=>?_) (λa r e=>?_) λa r e=>?_
 . unfold oq;exact eW (old a r e)<|e
 . unfold oq at e
   split at e
   . rename_i j k e1
     refine .inr λj y hy hk hc=>?_
     have hl:j<fr.length:=by
      refine eW F0.len ?_;induction q:decide (j<ns.length)using ax with
      |true=>exact of_decide_eq_true q
      |false=>rw[ba (bu (of_decide_eq_false q))]at hy;exact nn hy
     (refine m_ (F0.p9 j y _ hy (aV hl) hk) λ_ c ov q1 q3=>?_;obtain⟨oc,q2,_⟩:=q3;intro _)
     rw[hc]at q1;cases q1
     have:=(m a _ e1).1;rw[q2]at this;exact nn this.symm
   . exact .inl e
 . unfold oq at e
   split at e
   . rename_i j k e1
     (refine ng (m a _ e1) λ_ _ h3 h4 o h5=>?_)
     exact⟨h3,h4,o,h5⟩
   . exact F.iK a r e
def Vals(C:Cx)(G:Gh)(O:aO->Option Role)(h:eu):List Nat->List aB->List Slot->Prop
 |[],[],[]=>True
 |i::is,v::vs,sl::gU=>cV C G O h i sl (some v)/\sl.writable=true/\Vals C G O h is vs gU
 |_,_,_=>False
@[elab_as_elim] theorem Vals.ind{P:List Nat->List aB->List Slot->Prop}(y:Vals C G O h is vs gU)(h0:P [] [] [])
   (h1:∀i is v vs sl gU,cV C G O h i sl (some v)->sl.writable=true->Vals C G O h is vs gU->P is vs gU->P (i::is) (v::vs) (sl::gU)):P is vs gU:=
  l2 (P:=λis vs=>∀gU,Vals C G O h is vs gU->P is vs gU) is vs (λgU=>gU.casesOn (λ_=>h0) λ_ _ y=>dV y)
   (λi is v vs ih gU=>gU.casesOn (λy=>dV y) λsl gU y=>h1 i is v vs sl gU y.1 y.2.1 y.2.2 (ih gU y.2.2)) (λ_ _ gU=>gU.casesOn (λy=>dV y) λ_ _ y=>dV y) (λ_ _ gU=>gU.casesOn (λy=>dV y) λ_ _ y=>dV y) gU y
theorem Vals.move(q:∀a r,O a=some r->(r=.ki\/∃i k,r=.own i k)->c7 h h' a)(y:Vals C G O h is vs gU):Vals C G O h' is vs gU:=
 y.ind trivial λi _ _ _ _ _ x w _ ih=>⟨x.move λa r e hr=>⟨e,q a r e (hr.imp id λq4=>xE q4 λk e=>⟨i,k,e⟩)⟩,w,ih⟩
def oj:List Slot->List Nat->List Slot->Option (List Slot)
 |fr,[],[]=>some fr
 |fr,i::is,sl::gU=>(setSlot fr i sl).bind λcJ=>oj cJ is gU
 |_,_,_=>none
def Stores(C:Cx)(env:ra)(x:bA)(t:aB->Sem Unit):Prop:=∀{A:fF}{E:aB->aN->Prop}{s:aN}{v:aB}{Q:Unit->aN->Prop},aK C.M A (storeName env x v) Q E s->aK C.M A (t v) Q E s
def eJ(C:Cx)(env:ra)(ns:List bA):List Nat->List (aB->Sem Unit)->Prop
 |[],[]=>True
 |i::is,t::ts=>(∃x,ns[i]?=some x/\Stores C env x t)/\eJ C env ns is ts
 |_,_=>False
def PU(C:Cx)(G:Gh)(O:aO->Option Role)(sc:Sc)(ns:List bA)(env:ra)(s:aN)(fr:List Slot)(wl:WL)(s':aN):Prop:=
 ∃G' O',bX C G G' O O' s s'/\bz C G' wl s'.heap/\cL C G' O' sc ns env fr s'.heap
theorem iZ{G0:Gh}(X:bX C G0 G O0 O s0 s)(W:bz C G wl s.heap)(F:cL C G O sc ns env fr s.heap)
 (hx:ns[i]?=some x)(hs:setSlot fr i sl=some cJ)(hw:sl.writable=true)(S:cV C G O s.heap i sl (some v)){Q:Unit->aN->Prop}
 (h:∀s',bX C G0 G O0 O s0 s'->bz C G wl s'.heap->cL C G O sc ns env cJ s'.heap->(∀a r,O a=some r->(r=.ki\/∃i k,r=.own i k)->c7 s.heap s'.heap a)->Q () s'):
 aK C.M A (storeName env x v) Q E s:=by
 refine vi W F hx hs hw F.iK (λ_ _ e _=>e) (λ_ _ e=>.inr e) (λ_ _ e=>.inl e) S λs' a W' F' he sb hr al=>?_
 (refine u_ he ?_;clear he;intro h' tk q5;subst q5)
 refine h _ (X.mod ?_ sb al) W' F' λb r e hk o eo=>?_
 . induction q:s0.heap.get? a using aA with
   |none=>exact .inl rfl
   |some o=>
    by_cases hh:qk O0 a
    . exact .inr hh
    . exact absurd (FN hr) (X.own a o q hh)
 . (refine dT hr ?_;clear hr;intro r' h1 h2 h3)
   have:b≠a:=λq=>by
    subst q;rw[e]at h1;cases h1;rcases hk with rfl|⟨i,k,rfl⟩
    . exact h2 rfl
    . exact h3 _ _ rfl
   exact(sb.2 b this).trans eo
theorem pF{G0:Gh}(is:List Nat):∀(ts:List (aB->Sem Unit))(vs:List aB)(gU:List Slot)(fr cJ:List Slot)(s:aN),bX C G0 G O0 O s0 s->bz C G wl s.heap->cL C G O sc ns env fr s.heap->
 eJ C env ns is ts->Vals C G O s.heap is vs gU->oj fr is gU=some cJ->aK C.M A (assignInOrder ts vs) (λ_ s'=>PU C G0 O0 sc ns env s0 cJ wl s') E s:=by
 induction is with
 |nil=>
  intro ts vs gU fr cJ s X W F hT hV q;induction ts using bP with
  |cons _ _=>exact hT.elim
  |nil=>
   induction vs using bP with
   |cons _ _=>exact hV.elim
   |nil=>
    induction gU using bP with
    |cons _ _=>exact hV.elim
    |nil=>cases q;exact ar ⟨G,O,X,W,F⟩
 |cons i is ih=>
  intro ts vs gU fr cJ s X W F hT hV q;induction ts using bP with
  |nil=>exact hT.elim
  |cons t ts=>
   induction vs using bP with
   |nil=>exact hV.elim
   |cons v vs=>
    induction gU using bP with
    |nil=>exact hV.elim
    |cons sl gU=>
     (refine xA hT ?_;clear hT;intro q6;obtain⟨x,hx,ht⟩:=q6;intro hT')
     (refine bS (jd.mp q) λf_ q1 q2=>?_)
     show aK C.M A (do holding vs (t v);assignInOrder ts vs) _ _ _;refine ai (bM (ht (iZ X W F hx q1 hV.2.1 hV.1 λs' X' W' F' hm=>?_)));exact ih ts vs gU f_ cJ s' X' W' F' hT' (hV.2.2.move hm) q2
theorem PU.next(X:PU C G O sc ns env s fr wl s'):PS C G O sc ns env s .next fr wl .next s':=cO X λG1 O1 a b c=>⟨G1,O1,a,b,c,trivial⟩
theorem vg{t:Option af}{l:Nat}(h:qE e=false):swapsWith e t l env=pure false:=by induction e using bF<;>first|rfl|exact nomatch h
theorem Fy{e:OT}(R:mx C G h₀ h v e):∃bq,nV C G h₀ h 0 bq/\dM C G bq h (λk=>some (.own 0 k)) v e:=
 bS R λbq p y=>⟨bq,λa r e=>jN (p a r e) λq1 q2 q3=>⟨q1,bS q2 λk q2 q4=>⟨0,k,q2,aT _,q4⟩,q3⟩,y⟩
theorem AP{G0:Gh}{e:EV}(F0:cL C G0 O sc ns env fr s0.heap)(X:Step C G0 G s0 s)(W:bz C G wl s.heap)(R:cE C G O s0.heap s.heap v e)
 (hx:ns[i]?=some x)(he:e.Dh=some sl)(hs:setSlot fr i sl=some cJ):
 aK C.M A (storeName env x v) (λ_ s'=>PU C G0 O sc ns env s0 cJ wl s') ee s:=by
 induction e using EV.casesOn with
 |bor t=>exact nn he
 |fv d=>obtain rfl:=ag he;exact iZ X.o W (F0.step X) hx hs rfl ⟨v,rfl,R⟩ λs' X' W' F' _=>⟨G,O,X',W',F'⟩
 |own t=>
  obtain rfl:=ag he;exact bS (Fy R) λbq m y=>iZ (rr (is:=[i]) X m) W (F0.zD X m) hx hs rfl ⟨v,rfl,dM.relabel (λa k e=>by unfold oq;exact eW e rfl) y⟩ λs' X' W' F' _=>⟨G,_,X',W',F'⟩
theorem JH{pos:dK}{a:IE}(hx:ns[i]?=some x)(ha:dS C bp k sc ns e a)(hc:qE e=false):jw C bp N k sc ns (.Assign [.Name x p] e pos) (.assign i a):=λG O env A s fr wl fl cJ bQ q H=>
 f9 q λy w1 q1 q=>ob q λsl eE q=>MM q λf_ q3=>xZ (ha.run H q1 λv aM G1 x1 H1 R1=>cX (AP H.F x1 H1.W R1 hx eE q3) λ_ s' h=>h.next) (vg hc)
theorem AN:Stores C env x (assign (.Name x p) env):=λh=>assign_Name h
theorem AO:Stores C env x (bindName env x):=λh=>bindName_ h
theorem ka:∀{is:List Nat}{es:List af},ly ns is es=true->eJ C env ns is ((assignEach es env).map (·.2))/\(assignEach es env).findIdx? (·.1)=none/\(assignEach es env).length=is.length
 |[],es,h=>l0 h ⟨trivial,rfl,rfl⟩
 |i::is,es,h=>BO h λe es h=>an h λh1 h2=>kL h1 λx p h1=>
  have⟨a,b,c⟩:=ka h2
  ⟨⟨⟨x,eq_of_beq h1,AN⟩,a⟩,List.findIdx?_cons.trans (congrArg (Gx (·+1)) b),congrArg (·+1) c⟩
theorem nq:∀{is:List Nat}{ds:List FV}{fr:List Slot},ez fr is ds=oj fr is (ds.map .val)
 |[],[],_=>rfl
 |i::is,d::ds,fr=>congrArg _ (funext λ_=>nq)
 |[],_::_,_=>rfl
 |_::_,[],_=>rfl
theorem za(hl:is.length=ds.length)(h:bB C G vs ds):Vals C G O h' is vs (ds.map .val):=
 h.ind (P:=λvs ds=>∀is:List Nat,is.length=ds.length->Vals C G O h' is vs (ds.map .val)) (λis hl=>match is,hl with|[],_=>trivial)
  (λv d vs ds a _ ih is hl=>match is,hl with|i::is,hl=>⟨⟨v,rfl,a⟩,rfl,ih is (kM hl)⟩) is hl
theorem oI:∀{is:List Nat}{gU:List Slot}{fr cJ:List Slot},oj fr is gU=some cJ->is.length=gU.length
 |[],[],_,_,_=>rfl
 |i::is,sl::gU,fr,cJ,q=>ob q λ_ _ q=>congrArg (·+1) (oI q)
 |[],_::_,_,_,q=>nn q
 |_::_,[],_,_,q=>nn q
theorem yh{G0:Gh}{x1}(hh:A.handled=none)(X:bX C G0 G O' O s0 s)(W:bz C G wl s.heap)(F:cL C G O sc ns env fr s.heap)
 (R:Rep C G v (.tup ds))(ht:cY ns (.Tuple es x1 p) is=true)(hs:ez fr is ds=some cJ):aK C.M A (assign (.Tuple es x1 p) env v) (λ_ s'=>PU C G0 O' sc ns env s0 cJ wl s') ee s:=by
 rw[nq]at hs
 have hl:=(oI hs).trans (aj _);refine jN (ka (C:=C) (env:=env) (g_ ht).2) λT1 T2 T3=>tupI W R λa vs n h1 r1=>nT (items:=vs.toArray) hh ⟨_,h1,rfl,n,rfl⟩ (by exact eW T3<|eW cj<|eW r1.length<|eW hl rfl) T2 λh' hx=>?_
 have k:∀b o,s.heap.get? b=some o->h'.get? b=some o:=λb o e=>hx b o (bx (bb e)) e
 have x1:Step C G G s {s with heap:=h'}:=.grow h' s.toks k;exact pF is _ _ _ fr cJ _ (X.trans x1.o) (W.grow k) (F.step x1) T1 (za hl r1) hs
theorem JC{n:Nat}{pos:dK}{a:IE}(ht:cY ns (.Tuple es n p) is=true)(ha:dS C bp k sc ns e a)(hn:∀xs k p,e≠.Tuple xs k p):
 jw C bp N k sc ns (.Assign [.Tuple es n p] e pos) (.unpack is a):=λG O env A s fr wl fl cJ bQ q H=>
 f9 q λy w1 q1 q=>ob q λds h1 q=>MM q λf_ q3=>Mt (ha.run H q1 λv aM G1 x1 H1 R1=>ob h1 λd h2 h3=>cX (yh H.room.handled x1.o H1.W H1.F
  ((eg (P:=λy=>cE C G1 O s.heap aM.heap v y->Rep C G1 v (.tup ds)) h2 (FV.CX (P:=λd=>Rep C G1 v d->Rep C G1 v (.tup ds)) h3 λR=>R)) R1) ht q3) λ_ s' h=>h.next) (by induction e using bF<;>rfl) (by induction e using bF<;>first|rfl|(exact absurd rfl (hn _ _ _)))
theorem Gm{G0:Gh}{t:af}(hh:A.handled=none)(X:bX C G0 G O' O s0 s)(W:bz C G wl s.heap)(F:cL C G O sc ns env fr s.heap)
 (R:Rep C G v d)(ht:cY ns t is=true)(hs:c6 fr is d=some cJ):aK C.M A (assign t env v) (λ_ s'=>PU C G0 O' sc ns env s0 cJ wl s') ee s:=by
 revert hs
 refine ve ht (λx p i hx hs=>?_) λes n p ht hs=>?_
 . exact assign_Name (iZ X W F hx hs rfl ⟨v,rfl,R⟩ λs' X' W' F' _=>⟨G,O,X',W',F'⟩)
 . have h2:=(g_ ht).1
   revert h2 hs ht
   exact match is with
   |[]=>λ_ _ h2=>absurd h2 (IC 1)
   |[_]=>λ_ _ h2=>absurd h2 (qU 1)
   |_::_::_=>λht hs _=>ob hs λxs h1 hs=>(FV.CX (P:=λd=>Rep C G v d->_) h1 λR=>yh hh X W F R ht hs) R
theorem Vf{pos:dK}{a:IE}(ha:dS C bp k sc ns e a):jw C bp N k sc ns (.Return (some e) pos) (.ret a):=λG O env A s fr wl fl cJ bQ q H=>f9 q λy w1 q1 q=>MM q λd h1=>by
 show aK C.M A (do standAt pos;let x<-eval e env;pure (Flow.ret x)) _ _ _;exact ai (cc (ai (ha.run H q1 λv aM G1 x1 H1 R1=>ar ⟨G1,O,x1.o,H1.W,H1.F,(eg (P:=λy=>cE C G1 O s.heap aM.heap v y->Rep C G1 v d) h1 λR=>R) R1⟩)))
theorem G8{pos:dK}:jw C bp N k sc ns (.Return none pos) (.ret (.lit .none)):=λG O env A s fr wl fl cJ bQ q H=>xp q (ai (cc (ar ⟨G,O,(Step.refl C G s).o,H.W,H.F,(.none:Rep C G .none .none)⟩)))
theorem R_{pos:dK}:jw C bp N k sc ns (.Continue pos) .cont:=λG O env A s fr wl fl cJ bQ q H=>xp q (ai (cc (ar ⟨G,O,(Step.refl C G s).o,H.W,H.F,trivial⟩)))
theorem R8:jw C bp N k sc ns st .fail:=λG O env A s fr wl fl cJ bQ q H=>nn q
theorem Here.next(H:Here C G O sc ns env fr wl k A s)(W:bz C G' bQ s'.heap)(F:cL C G' O' sc ns env cJ s'.heap):Here C G' O' sc ns env cJ bQ k A s':=⟨H.base,H.room,W,F⟩
theorem Vh:qM C bp N k sc ns [] .nil:=λG O env A s fr wl fl cJ bQ q H=>xp q (ar ⟨G,O,(Step.refl C G s).o,H.W,H.F,trivial⟩)
theorem Sa{b:List bV}{a:IS}{r:IB}(h1:jw C bp N k sc ns st a)(h2:qM C bp N k sc ns b r):qM C bp N k sc ns (st::b) (.cons a r):=λG O env A s fr wl fl cJ bQ q H=>f9 q λf1 y q1 q2=>by
 exact eW (execs_cons ..)<|ai (PS.to (h1 G O env A s fr wl f1 y.1 y.2 q1 H) λf aM G1 O1 X1 W1 F1 hf=>TC (g:=λf1=>some (f1,y)) hf q2 (λq2=>PS.back X1 (h2 G1 O1 env A aM y.1 y.2 fl cJ bQ q2 (H.next W1 F1)))
  (λq2=>xp q2 (ar ⟨G1,O1,X1,W1,F1,trivial⟩)) λd v hf q2=>xp q2 (ar ⟨G1,O1,X1,W1,F1,hf⟩))
theorem Zp{t:af}{b o:List bV}{pos:dK}{a:IE}{x y:IB}(ht:dS C bp k sc ns t a)(hb:qM C bp N k sc ns b x)(ho:qM C bp N k sc ns o y):jw C bp N k sc ns (.If t b o pos) (.ite a x y):=λG O env A s fr wl fl cJ bQ q H=>f9 q λz w1 q1 q2=>by
 show aK C.M A (do standAt pos;if<-isTrue t env (eval t env)then execs b env else execs o env) _ _ _;exact ai (cc (ai (ht.C5 H q1 λaM G1 x1 H1=>match z,q2 with
  |true,q2=>PS.back x1.o (hb G1 O env A aM fr w1 fl cJ bQ q2 H1)
  |false,q2=>PS.back x1.o (ho G1 O env A aM fr w1 fl cJ bQ q2 H1))))
noncomputable def listOf(vs:List aB)(n:Nat):jX:={cls:=.type "list",data:=.seq vs.toArray n}
noncomputable def U6(vs:List aB)(n:Nat):jX:={cls:=.type "tuple",data:=.seq vs.toArray n}
def lJ(C:Cx)(G:Gh)(h:eu)(a:aO)(ds:List FV):Prop:=
 (∃l vs n i,G.F l=some (listOf vs n)/\h.IsListIter a l i/\bB C G (vs.drop i) ds)\/
 (∃l vs n i,G.F l=some (U6 vs n)/\h.IsTupleIter a l i/\bB C G (vs.drop i) ds)\/
 (∃(x left st:Int),IsRangeIter h a x left st/\ds=((ae left.toNat).map λ(i:Nat)=>x+(i:Int)*st).map .int)
theorem lJ.ext(x:Ext G G')(q:c7 h h' a)(I:lJ C G h a ds):lJ C G' h' a ds:=
 I.imp (λI=>j3 I λl vs n i h1 h2 h4=>bS h2 λo h2 h3=>⟨l,vs,n,i,x.f _ _ h1,⟨o,q _ h2,h3⟩,h4.mono x⟩) λI=>I.imp (λI=>j3 I λl vs n i h1 h2 h4=>bS h2 λo h2 h3=>⟨l,vs,n,i,x.f _ _ h1,⟨o,q _ h2,h3⟩,h4.mono x⟩)
  λI=>j8 I λy left st h1 h2=>⟨y,left,st,q _ h1,h2⟩
theorem zH(W:bz C G wl s.heap)(R:Rep C G v d)(hi:items (.fv d)=some ds)
 (h:∀o,o.isFreed=false->lJ C G (s.heap.push o) s.heap.objs.size ds->Q (.ref s.heap.objs.size) {s with heap:=s.heap.push o}):aK C.M A (pyIter v) Q E s:=
 have hi:uN d=some ds:=hi
 oe hi (λ_ hi=>ob hi λr h1 hi=>dU hi λPa hi=>(FV.VH (P:=λd=>Rep C G v d->_) h1 λR=>m8 R.inv λa t u w e hr=>an Pa λPa _=>an Pa λPa _=>by
  subst e;obtain rfl:=ag hi;exact wpAny_pyIter_range (W.sub _ _ hr) Pa (h _ rfl (.inr (.inr ⟨_,_,_,bI _ rfl,rfl⟩)))) R)
  λxs h1 hi=>dU hi λ_ hi=>by
   obtain rfl:=ag hi;exact oe h1 (λ_ h1=>(FV.xF (P:=λd=>Rep C G v d->_) h1 λR=>jM R.inv λa vs n e hr r=>by
    subst e;exact wpAny_pyIter_list ⟨_,W.sub _ _ hr,rfl,_,rfl⟩ (h _ rfl (.inl ⟨_,_,_,0,hr,⟨_,bI _ rfl,rfl,rfl⟩,r⟩))) R)
    λys h2 h1=>(FV.CX (P:=λd=>Rep C G v d->_) h2 λR=>jM R.inv λa vs n e hr r=>by
     subst e;obtain rfl:=ag h1;exact wpAny_pyIter_tuple ⟨_,W.sub _ _ hr,rfl,_,rfl⟩ (h _ rfl (.inr (.inl ⟨_,_,_,0,hr,⟨_,bI _ rfl,rfl,rfl⟩,r⟩)))) R
theorem drop_cons{α:Type}{vs:List α}{x:α}{r:List α}(e:vs.drop i=x::r):vs[i]?=some x/\vs.drop (i+1)=r:=
 ⟨Qg.symm.trans (congrArg Y' e),(List.tail_drop.symm.trans (congrArg List.tail e))⟩
@[elab_as_elim] theorem bB.Q5{P:List aB->Prop}(h:bB C G (vs.drop i) (d::ds))(k:∀v,vs[i]?=some v->Rep C G v d->bB C G (vs.drop (i+1)) ds->P vs):P vs:=by
  generalize e:vs.drop i=ws at h;exact(h.rS (P:=λws=>vs.drop i=ws->P vs) λv ws a r e=>k v (drop_cons e).1 a ((drop_cons e).2.symm▸r)) e
theorem FG{Q:Option aB->aN->Prop}(W:bz C G wl s.heap)(I:lJ C G s.heap a (d::ds))
 (h:∀v h' tk,Rep C G v d->lJ C G h' a ds->cS a s.heap h'->(∃o,h'.get? a=some o)->Q (some v) {s with heap:=h',toks:=tk}):aK C.M A (pyNext (.ref a)) Q E s:=
 I.elim (λI=>j3 I λl vs n i h1 h2 h4=>h4.Q5 (P:=λ_=>_) λv e1 r1 r2=>wpAny_pyNext_list_item h2 ⟨_,W.sub _ _ h1,rfl,n,rfl⟩ (by simpa using e1) λh' hit hs=>h _ _ s.toks r1 (.inl ⟨l,vs,n,i+1,h1,hit,r2⟩) hs (bS hit λo ho _=>⟨o,ho⟩)) λI=>I.elim
  (λI=>j3 I λl vs n i h1 h2 h4=>h4.Q5 (P:=λ_=>_) λv e1 r1 r2=>wpAny_pyNext_tuple_item h2 ⟨_,W.sub _ _ h1,rfl,n,rfl⟩ (by simpa using e1) λh' hit hs=>h _ _ s.toks r1 (.inr (.inl ⟨l,vs,n,i+1,h1,hit,r2⟩)) hs (bS hit λo ho _=>⟨o,ho⟩))
  λI=>j8 I λy left st h1 h2=>by
   have hl:0<left:=fg λhl=>by rw[Int.toNat_of_nonpos (pq.mp hl)]at h2;exact nomatch h2
   have e:left.toNat=(left-1).toNat+1:=xE (Int.eq_succ_of_zero_lt hl) λn e=>by
    refine eW e ?_
    show n+1=(((n:Int)+1)-1).toNat+1;exact eW (tG ..) rfl
   rw[e,CJ,bT,bT,bH]at h2;injection h2 with h2 h3
   refine wpAny_pyNext_range_item h1 hl λh' hit hs=>h _ _ _ ?_ (.inr (.inr ⟨_,_,_,hit,?_⟩)) hs ⟨_,hit⟩
   . exact eW h2<|eW Int.natCast_zero<|eW (Int.zero_mul ..)<|eW (Int.add_zero ..)<|.int _ _
   . refine eW h3<|eW bH<|eW bH ?_
     refine dA λj _=>congrArg FV.int ?_
     show y+((j+1:Nat):Int)*st=y+st+(j:Int)*st;exact eW (Int.natCast_succ ..)<|eW (Int.add_mul ..)<|eW (Za ..)<|eW (MF ..)<|eW (Int.add_assoc ..) rfl
theorem bB.SD(h:bB C G vs []):vs=[]:=n_.mp h.length
theorem KQ{Q:Option aB->aN->Prop}(hh:A.handled=none)(W:bz C G wl s.heap)(I:lJ C G s.heap a [])
 (h:∀h',XU a s.heap h'->Q none {s with heap:=h'}):aK C.M A (pyNext (.ref a)) Q E s:=
 I.elim (λI=>j3 I λl vs n i h1 h2 h4=>wpAny_pyNext_list_end hh h2 ⟨_,W.sub _ _ h1,rfl,n,rfl⟩ (by simpa using qx.mp h4.SD) h) λI=>I.elim
  (λI=>j3 I λl vs n i h1 h2 h4=>wpAny_pyNext_tuple_end hh h2 ⟨_,W.sub _ _ h1,rfl,n,rfl⟩ (by simpa using qx.mp h4.SD) h)
  λI=>j8 I λy left st h1 h2=>wpAny_pyNext_range_end hh h1 (Int.toNat_eq_zero.mp (by have:=congrArg List.length h2;rw[aj,aj,aq]at this;exact this.symm)) h
structure Loose(C:Cx)(G:Gh)(O:aO->Option Role)(h:eu)(a:aO):Prop where
 f:G.F a=none
 free:eQ C G a
 own:O a=none
 has:∃o,h.get? a=some o
theorem Loose.zY(L:Loose C G O h a):¬qk O a:=λq=>bS q λ_ q _=>gone L.own q
theorem Loose.step(L:Loose C G O s.heap a)(x:bX C G G' O O' s s'):Loose C G' O' s'.heap a where
 f:=xE L.has λo ho=>none_of (y:=(none:Option jX)) (λo' q=>(x.lx a o' q).elim (gone L.f) λq=>q.elim (λq=>gone q ho) λq=>absurd q L.zY) rfl
 free:=⟨L.free.1,λe=>(x.kB a e).elim L.free.2 λq=>xE L.has λo ho=>gone q ho⟩
 own:=xE L.has λo ho=>x.Oi a o ho L.own
 has:=xE L.has λo ho=>⟨o,x.keep a o L.free L.zY ho⟩
theorem Loose.same(L:Loose C G O s.heap a)(x:bX C G G' O O' s s'):c7 s.heap s'.heap a:=λo e=>x.keep a o L.free L.zY e
theorem cL.loose(F:cL C G O sc ns env fr h)(n:O a=none)(nc:∀(j:Nat)(y:bA),ns[j]?=some y->env.kindOf y≠some .local->env.cells.lookup y≠some a)(k:∀b,b≠a->c7 h h' b):cL C G O sc ns env fr h':=
 have kO:∀{b:aO}{r:Role},O b=some r->c7 h h' b:=λe=>k _ λq=>gone n (q▸e)
 {F with
  iK:=λb r e=>mF (F.iK b r e) λh1 h2 o h3=>⟨h1,h2,o,kO e _ h3⟩
  loc:=bS F.loc λm hm q=>⟨m,hm.at' (kO F.lN),λi x s e1 e2 e3=>(q i x s e1 e2 e3).move λb r e _=>⟨e,kO e⟩⟩
  p9:=λi x s e1 e2 e3=>xA (F.p9 i x s e1 e2 e3) λhk q=>iP q λc ov q1 q2 q3 q=>⟨hk,c,ov,q1,bS q2 λoc q2 Zz=>⟨oc,k c (λq=>nc i x e1 e3 (q▸q1)) _ q2,Zz⟩,q3.move λb r e _=>⟨e,kO e⟩,q⟩}
theorem gI.loose(W:gI C G h ow wl)(k:∀b,ow=some b->c7 h h' b):gI C G h' ow wl:=match ow,wl,W,k with
 |some b,some ds,W,k=>nX W λh1 vs n h2 r=>⟨h1,vs,n,k b rfl _ h2,r⟩
 |none,none,_,_=>trivial
theorem bz.loose(W:bz C G wl h)(f:G.F a=none)(fr:eQ C G a)(k:∀b,b≠a->c7 h h' b):bz C G wl h' where
 sub:=λb o e=>k b (λq=>gone f (q▸e)) _ (W.sub b o e)
 base:=W.base
 tabs:=λq hq=>qn (W.tabs q hq) λh1 h2 ps h3 r=>⟨h1,h2,ps,k _ (fr.1 q hq) _ h3,r⟩
 well:=W.well.loose λb e=>k b λq=>fr.2 (q▸e)
theorem bX.loose{t:Nat}(x:bX C G G' O O' s s')(n:s.heap.get? a=none)(k:∀b,b≠a->c7 s'.heap h' b):bX C G G' O O' s {s' with heap:=h',toks:=t}:=
 {x with
  keep:=λb o f hn e=>k b (λq=>gone n (q▸e)) _ (x.keep b o f hn e)
  alive:=λb o e=>xE (x.alive b o e) λo' e'=>⟨o',k b (λq=>gone n (q▸e)) _ e'⟩}
theorem eH(sb:cS a h h'):∀b,b≠a->c7 h h' b:=λb q o e=>(sb.2 b q).trans e
theorem cL.mS(F:cL C G O sc ns env fr h)(n:h.get? a=none):∀(j:Nat)(y:bA),ns[j]?=some y->env.kindOf y≠some .local->env.cells.lookup y≠some a:=λj y hy hk hc=>
 xA (F.p9 j y _ hy (aV (F.len.symm▸fB hy)) hk) λ_ q=>cO q λc ov q1 q2 _=>bS q2 λoc q2 _=>gone n (ag (q1.symm.trans hc)▸q2)
def Mf(C:Cx)(G:Gh)(O:aO->Option Role)(sc:Sc)(ns:List bA)(env:ra)(s:aN)(run:Gh->(aO->Option Role)->aN->Nat->St->Prop)(n:Nat)(s':aN):Prop:=
 ∃G' O' gX ji,bX C G G' O O' s s'/\bz C G' ji s'.heap/\cL C G' O' sc ns env gX s'.heap/\run G' O' s' n (gX,ji)
theorem NB{t:af}{b:List bV}{pos:dK}{a:IE}{x:IB}(ht:dS C bp k sc ns t a)(hb:qM C bp N k sc ns b x):jw C bp N k sc ns (.While t b [] pos) (.while a x):=λG O env A s fr wl fl cJ bQ q H=>by
 refine wpAny_While (codeAny_whileLoop (Mf C G O sc ns env s λ_ _ _ n Ii=>y9 (λwW:St=>(eK bp a wW.1 wW.2).map λx=>(x.1,wW.1,x.2)) (λwW:St=>hU bp N x wW) n Ii=some (fl,cJ,bQ)) (λn s' h=>?_) N ⟨G,O,fr,wl,(Step.refl C G s).o,H.W,H.F,q⟩);refine jE h λG' O' gX ji h=>fA h λX W F q=>?_;induction n using IH with
 |zero=>exact nn q
 |succ n=>
  refine ob q λy q1 q3=>?_
  revert q3
  refine Yn q1 λc w1 q1 q3=>ht.C5 (H.next W F) q1 λaM G1 x1 H1=>?_;induction c using ax with
  |false=>exact xp q3 (Cp ⟨G1,O',X.trans x1.o,H1.W,H1.F,trivial⟩)
  |true=>
   refine f9 q3 λf1 y q4 q5=>PS.to (hb G1 O' env A aM gX w1 f1 y.1 y.2 q4 H1) λf b0 G2 O2 X2 W2 F2 hf=>?_
   have X3:=(X.trans x1.o).trans X2;exact z1 hf q5 (λq5=>⟨n,bg n,G2,O2,y.1,y.2,X3,W2,F2,q5⟩) (λq5=>⟨n,bg n,G2,O2,y.1,y.2,X3,W2,F2,q5⟩) λd v hf q5=>xp q5 ⟨G2,O2,X3,W2,F2,hf⟩
theorem KC{t:af}{it:aB}{Q:Unit->aN->Prop}(I:∀a,it=.ref a->∃o n,s.heap.get? a=some o/\o.cls=.type n/\(["enumerate","zip","dict_itemiterator","dict_reverseitemiterator","odict_iterator","itertools.zip_longest","itertools.pairwise"]:List String).contains n=false)(h:Q () s):
 aK C.M A (letOwnedTupleGo t it v) Q E s:=by
 have fin:aK C.M A (do
  let(.ref r,.ref a):=(it,v)|return
  let o<-load r
  match o.cls,o.data with
  |.type n,.fields vs=>
   if["enumerate","zip","dict_itemiterator","dict_reverseitemiterator","odict_iterator","itertools.zip_longest","itertools.pairwise"].contains n&&vs[0]?==some (rawInt a)then
    rule "for.unpacks-the-owned-tuple"
    updateField r 0 .none
  |_,_=>pure ():Sem Unit) Q E s:=by
  induction it using eT with
  |ref r=>
   induction v using eT with
   |ref a=>
    (refine cO (I r rfl) λo n ho hc hn=>?_)
    refine ai (Uc ho ?_);refine eW hc ?_;induction o.data using lL with
    |fields vs=>
     dsimp only;exact eW hn<|ar h
    |_=>exact ar h
   |_=>exact ar h
  |_=>exact ar h
 delta letOwnedTupleGo;induction t using bF<;>first|exact ar h|exact fin
theorem lJ.cls(I:lJ C G h a ds):∃o n,h.get? a=some o/\o.cls=.type n/\(["enumerate","zip","dict_itemiterator","dict_reverseitemiterator","odict_iterator","itertools.zip_longest","itertools.pairwise"]:List String).contains n=false:=by
 exact I.elim (λI=>j3 I λl vs n i _ h2 _=>dT h2 λo h2 h3 _=>⟨o,"list_iterator",h2,h3,by decide⟩) λI=>I.elim (λI=>j3 I λl vs n i _ h2 _=>dT h2 λo h2 h3 _=>⟨o,"tuple_iterator",h2,h3,by decide⟩)
  λI=>j8 I λy left st h1 h2=>⟨_,"range_iterator",h1,rfl,by decide⟩
theorem bX.refl(C:Cx)(G:Gh)(O:aO->Option Role)(s:aN):bX C G G O O s s:=(Step.refl C G s).o
theorem zZ(h:gV e=true)(x:aB):foldedSetIterable e env x=pure x:=by induction e using bF<;>first|rfl|exact ff h
theorem yv{G0:Gh}{o:jX}(F:cL C G O sc ns env fr s.heap)(W:bz C G wl s.heap)(x:Step C G0 G s0 s)(hf:o.isFreed=false):
 s0.heap.get? s.heap.objs.size=none/\Loose C G O (s.heap.push o) s.heap.objs.size:=
 ⟨none_of (x.alive _) eI,gM W,gr W,none_of (y:=(none:Option Role)) (λr q=>mF (F.iK _ _ q) λ_ _ o' pZ=>gone eI pZ) rfl,o,hC hf⟩
structure Nx(C:Cx)(G0 G:Gh)(O0 O:aO->Option Role)(sc:Sc)(ns:List bA)(env:ra)(fr:List Slot)(wl:WL)(a:aO)(ds:List FV)(sb s s1:aN):Prop where
 X:bX C G0 G O0 O sb s1
 W:bz C G wl s1.heap
 F:cL C G O sc ns env fr s1.heap
 I:lJ C G s1.heap a ds
 L:Loose C G O s1.heap a
 k:∀b,b≠a->c7 s.heap s1.heap b
theorem Nx.next{G0:Gh}{O1:aO->Option Role}{s1 s2:aN}(n:Nx C G0 G O0 O sc ns env fr wl a ds sb s s1)(x:bX C G G1 O O1 s1 s2)(k:bX C G0 G1 O0 O1 sb s2->lJ C G1 s2.heap a ds->Loose C G1 O1 s2.heap a->P):P:=
 k (n.X.trans x) (n.I.ext x.ext (n.L.same x)) (n.L.step x)
theorem vY{G0:Gh}{Q:Option aB->aN->Prop}(X:bX C G0 G O0 O sb s)(n0:sb.heap.get? a=none)(nc:∀(j:Nat)(y:bA),ns[j]?=some y->env.kindOf y≠some .local->env.cells.lookup y≠some a)(W:bz C G wl s.heap)(F:cL C G O sc ns env fr s.heap)
 (I:lJ C G s.heap a (d::ds))(L:Loose C G O s.heap a)(h:∀v s1,Rep C G v d->Nx C G0 G O0 O sc ns env fr wl a ds sb s s1->Q (some v) s1):aK C.M A (pyNext (.ref a)) Q E s:=
 FG W I λv h' tk R I' Qq al=>h v {s with heap:=h',toks:=tk} R ⟨X.loose n0 (eH Qq),W.loose L.f L.free (eH Qq),F.loose L.own nc (eH Qq),I',⟨L.f,L.free,L.own,al⟩,eH Qq⟩
theorem zI{G0:Gh}{Q:Option aB->aN->Prop}(hh:A.handled=none)(X:bX C G0 G O0 O sb s)(n0:sb.heap.get? a=none)(nc:∀(j:Nat)(y:bA),ns[j]?=some y->env.kindOf y≠some .local->env.cells.lookup y≠some a)(W:bz C G wl s.heap)(F:cL C G O sc ns env fr s.heap)
 (I:lJ C G s.heap a [])(L:Loose C G O s.heap a)(h:∀s1,bX C G0 G O0 O sb s1->bz C G wl s1.heap->cL C G O sc ns env fr s1.heap->(∀b,b≠a->c7 s.heap s1.heap b)->Q none s1):aK C.M A (pyNext (.ref a)) Q E s:=
 KQ hh W I λh' hx=>h {s with heap:=h'} (X.loose n0 λb q o e=>hx b o q e) (W.loose L.f L.free λb q o e=>hx b o q e) (F.loose L.own nc λb q o e=>hx b o q e) λb q o e=>hx b o q e
theorem Vo{t:af}{b:List bV}{pos:dK}{a:IE}{x:IB}(ht:cY ns t is=true)(hi:dS C bp k sc ns it a)(hn:gV it=true)(hb:qM C bp N k sc ns b x):
 jw C bp N k sc ns (.For t it b [] pos) (.for is a x):=λG O env A s fr wl fl cJ bQ q H=>f9 q λy w1 q1 q=>ob q λds q2 q3=>by
 refine wpAny_For (hi.run H q1 λv aM G1 x1 H1 R1=>ob q2 λd h1 q2=>zH (d:=d) H1.W ((eg (P:=λy=>cE C G1 O s.heap aM.heap v y->Rep C G1 v d) h1 λR=>R) R1) q2 λo hf I=>?_) (zZ hn)
 have x2:Step C G1 G1 aM {aM with heap:=aM.heap.push o}:=.grow _ aM.toks (cQ o)
 have nc:=H1.F.mS (a:=aM.heap.objs.size) eI
 (refine xA (yv H1.F H1.W x1 hf) λn0 L0=>?_)
 generalize aM.heap.objs.size=ia at*;refine Rn (Mf C G O sc ns env s λG' O' s' n Ii=>∃rest,n=rest.length/\lJ C G' s'.heap ia rest/\Loose C G' O' s'.heap ia/\forL (λ(wW:St) v=>(c6 wW.1 is v).bind λfr=>hU bp N x (fr,wW.2)) rest Ii=some (fl,cJ,bQ)) (λn s' h=>?_) ds.length
  ⟨G1,O,fr,w1,(x1.trans x2).o,H1.W.grow (cQ o),H1.F.step x2,ds,rfl,I,L0,q3⟩
 refine jE h λG' O' gX ji h=>fA h λX W F h=>oB h λrest hn I L q=>?_;subst hn;induction rest using bP with
 |nil=>exact xp q (zI H.room.handled X n0 nc W F I L λs1 X W F _=>Cp ⟨G',O',X,W,F,trivial⟩)
 |cons d ds=>
  refine f9 q λf1 y q1 q6=>ob q1 λwy q4 q5=>vY X n0 nc W F I L λv s1 R n=>?_;refine KC (λa e=>by cases e;exact n.I.cls) ?_;refine cX (Gm (s0:=s1) H.room.handled (bX.refl C G' O' _) n.W n.F R ht q4) λ_ et h=>cO h λG3 O3 X3 W3 F3=>?_;refine PS.to (hb G3 O3 env A et wy ji f1 y.1 y.2 q5 (H.next W3 F3)) λf lM G4 O4 X4 W4 F4 hf=>?_;refine n.next (X3.trans X4) λX6 I5 L5=>?_
  exact z1 hf q6 (λq6=>⟨ds.length,bg _,G4,O4,y.1,y.2,X6,W4,F4,ds,rfl,I5,L5,q6⟩) (λq6=>⟨ds.length,bg _,G4,O4,y.1,y.2,X6,W4,F4,ds,rfl,I5,L5,q6⟩) λd' v hf q6=>xp q6 ⟨G4,O4,X6,W4,F4,hf⟩
theorem zj{Ub:aB->aN->Prop}(h:Ub (.ref s.heap.objs.size) {s with heap:=s.heap.push (fy (eX C.w))}):
 codeAny C.M A (.call (.builtin "set.__new__") ⟨[.type "set"],[]⟩) (wants Ub E) s:=by
 refine Cq ?_
 show aK _ A.in1 (do checkBuiltinCall "set.__new__" ⟨[.type "set"],[]⟩;again (.builtin "set.__new__" ⟨[.type "set"],[]⟩)) _ _ s;refine ai (wpAny_of_eq F.newCall_set_0 (ar ⟨plainId_quiet UR _,q_ F.entry_set_new ?_⟩));refine eW (pU UR _) ?_;delta qT.«set.__new__» Qd
 have Z0:=sub_set_self;obtain⟨hp,g,d,tk,os⟩:=s;dsimp only
 wp_walk
 refine eG (ar ?_);dsimp only;simp only[newObj];refine ai (tx (ar ?_));exact ar h
theorem LR(h:Q (.ref s.heap.objs.size) {s with heap:=s.heap.push (fy (eX C.w))}):aK C.M A (call (.type "set") []) Q E s:=by
 (refine u_ (iV.mro) λc tl adR=>?_)
 have abQ:=iV.made
 have Z0:=iV.sub;refine Ud (Cq ?_)
 show aK _ _ (callAny (.type "set") _) _ _ _;refine ar ⟨Code.quiet_builtin _ (by decide+kernel),q_ F.entry_type_call ?_⟩;refine eW (Around.under_plain (weight_type_call_type "set" [] []) rfl) ?_
 have h1:=iV.notType
 have h2:=iV.canCreate
 have HQ:=F.typeCall_set_0
 repeat(any_goals (first|assumption|wp_step))
 refine kH (zj (E:=E) (Ub:=λobj aM=>obj=.ref s.heap.objs.size/\aM={s with heap:=s.heap.push (fy (eX C.w))}) ⟨rfl,rfl⟩) λr aM hr=>?_;rcases r with e|(obj|_|_|_)<;>first|exact hr.elim|skip
 . exact hr
 . (refine xA hr ?_;clear hr;intro q1;subst q1;intro q2;subst q2)
   have hS:(s.heap.push (fy (eX C.w))).get? s.heap.objs.size=some (fy (eX C.w)):=bI _ rfl
   have hT:Shared.TypeIs {s with heap:=s.heap.push (fy (eX C.w))} (.ref s.heap.objs.size) "set":=⟨_,hS,rfl⟩
   have hli:=iV.init.lookup
   have hbi:=iV.init.bind (.ref s.heap.objs.size)
   repeat(any_goals (first|assumption|wp_step))
   refine kH (codeAny_call_builtin (R:=wants (λr b0=>r=.none/\Q (.ref s.heap.objs.size) b0) E) iV.init.plain F.entry_set_init (check_set_init hT ?_)) λZt b0 FK=>?_
   . delta qT.«set.__init__» noKeywords
     delta fy at*
     wp_walk
     exact⟨rfl,h⟩
   . rcases Zt with e|(r|_|_|_)<;>first|exact FK.elim|skip
     . exact FK
     . (refine xA FK ?_;clear FK;intro q3;subst q3;intro hq)
       repeat(any_goals (first|assumption|wp_step))
theorem J8{o:jX}{t:Nat}(W:bz C G wl s.heap)(k:∀b o',s.heap.get? b=some o'->h'.get? b=some o')(ho:h'.get? s.heap.objs.size=some o)
 (R:∀G':Gh,Ext G G'->G'.F s.heap.objs.size=some o->Rep C G' (.ref s.heap.objs.size) d):PE C G O s (.fv d) wl (.ref s.heap.objs.size) {s with heap:=h',toks:=t}:=by
 have hP:∀a,a=s.heap.objs.size->s.heap.get? a=none:=λa e=>by exact eW e<|eI
 exact⟨G.with h' (λa=>a=s.heap.objs.size),yj W.sub hP k,ye W hP k,R _ (jr W.sub hP) ((fT (P:=λa=>a=s.heap.objs.size) rfl).trans ho)⟩
theorem Hh{o:jX}{x:OT}{t:Nat}(W:bz C G wl s.heap)(k:∀b o',s.heap.get? b=some o'->h'.get? b=some o')(ho:h'.get? s.heap.objs.size=some o)
 (R:∀O':aO->Option Role,O' s.heap.objs.size=some (.own 0 0)->dM C G O' h' (λk=>some (.own 0 k)) (.ref s.heap.objs.size) x):PE C G O s (.own x) wl (.ref s.heap.objs.size) {s with heap:=h',toks:=t}:=
 ⟨G,.grow _ _ k,W.grow k,N9 s.heap.objs.size,λa r e=>Dn e λh1 h2=>h1▸⟨eI,⟨0,h2,by decide⟩,gM W,gr W,o,ho⟩,R _ (if_pos rfl)⟩
theorem qA{n t:Nat}{own:Bool}(W:bz C G wl s.heap)(k:∀b o',s.heap.get? b=some o'->h'.get? b=some o')(ho:h'.get? s.heap.objs.size=some {cls:=.type "list",data:=.seq vs.toArray n})(R:bB C G vs xs):
 PE C G O s (if own then .own (.ob (.list xs))else .fv (.list xs)) wl (.ref s.heap.objs.size) {s with heap:=h',toks:=t}:=by
 induction own using ax with
 |false=>exact J8 W k ho λG' x1 x2=>.list x2 (R.mono x1)
 |true=>exact Hh W k ho λO' hO=>⟨_,rfl,hO,gr W,gM W,vs.toArray,n,ho,by simpa using R⟩
theorem uV{es:List EV}(T:u7 C G O h₀ h i vs es)(q:xS es=some xs):bB C G vs xs:=bS T λ_ _ R=>R.xS q
@[elab_as_elim] theorem bB.Kn{P:List aB->Prop}(h:bB C G vs [])(k:P []):P vs:=h.SD▸k
@[elab_as_elim] theorem Ed{α:Type}{f:FV->Option α}{g:OT->Option α}{x:α}{a:EV}{P:List aB->Prop}(T:u7 C G O h₀ h i vs [a])(e:a.by f g=some x)(k:∀v,cE C G O h₀ h v a->P [v]):P vs:=
  bS T λbq m R=>Xs R λv R=>k v ((EV.Ad (P:=λa=>nW C G O bq h i v a->cE C G O h₀ h v a) e (λ_ _ R=>R) λ_ _ R=>R) R)
@[elab_as_elim] theorem fv1{P:List aB->Prop}(T:u7 C G O h₀ h i vs [.fv d])(k:∀v,Rep C G v d->P [v]):P vs:=
  (uV T rfl).rS λv vs r R=>R.Kn (P:=λvs=>P (v::vs)) (k v r)
@[elab_as_elim] theorem ints1{a:Int}{P:List aB->Prop}(T:u7 C G O h₀ h i vs [.fv (.int a)])(k:∀t,P [.int a t]):P vs:=
  fv1 T λv r=>ug (P:=λv=>P [v]) r k
@[elab_as_elim] theorem ints2{a b:Int}{P:List aB->Prop}(T:u7 C G O h₀ h i vs [.fv (.int a),.fv (.int b)])(k:∀t t',P [.int a t,.int b t']):P vs:=
  (uV T rfl).rS λv vs r R=>R.rS (P:=λvs=>P (v::vs)) λv' vs r' R=>R.Kn (P:=λvs=>P (v::v'::vs)) (ug (P:=λv=>P [v,v']) r λt=>ug (P:=λv'=>P [.int a t,v']) r' λt'=>k t t')
@[elab_as_elim] theorem ints3{a b c:Int}{P:List aB->Prop}(T:u7 C G O h₀ h i vs [.fv (.int a),.fv (.int b),.fv (.int c)])(k:∀t t' Yk,P [.int a t,.int b t',.int c Yk]):P vs:=
  (uV T rfl).rS λv vs r R=>R.rS (P:=λvs=>P (v::vs)) λv' vs r' R=>R.rS (P:=λvs=>P (v::v'::vs)) λv2 vs r2 R=>R.Kn (P:=λvs=>P (v::v'::v2::vs))
    (ug (P:=λv=>P [v,v',v2]) r λt=>ug (P:=λv'=>P [.int a t,v',v2]) r' λt'=>ug (P:=λv2=>P [.int a t,.int b t',v2]) r2 λYk=>k t t' Yk)
@[elab_as_elim] theorem FV.Qp{P:FV->Prop}(h:d.seq?=some xs)(k:P (.tup xs))(l:P (.list xs)):P d:=oe h (λ_ h=>FV.xF h l) λa h1 h2=>FV.CX (h1.trans h2) k
theorem Fc:∀{vs:List aB}{ds:List FV},vs.length=ds.length->(∀(i:Nat)(v:aB)(d:FV),vs[i]?=some v->ds[i]?=some d->Rep C G v d)->bB C G vs ds
 |[],[],_,_=>.nil
 |v::vs,d::ds,hl,h=>.cons (h 0 v d rfl rfl) (Fc (by simpa using hl) λi w e h1 h2=>h (i+1) w e (by simpa using h1) (by simpa using h2))
 |[],_::_,hl,_=>by simp at hl
 |_::_,[],hl,_=>by simp at hl
theorem XD{a:EV}{n:Nat}(W:bz C G wl s.heap)(R:cE C G O h₀ s.heap v a)(e:Wd a=some n)(hn:cg n=true):aK C.M A (call (.builtin "len") [v]) (PE C G O s (.fv (.int n)) wl) ee s:=
 have hz:=dN hn
 have lst:∀{xs:List FV}{u:aB}{a:EV}{h₀:eu},cE C G O h₀ s.heap u a->a.eh=some xs->xs.length=n->aK C.M A (call (.builtin "len") [u]) (PE C G O s (.fv (.int n)) wl) ee s:=λR h e=>listI W R h λa vs m h1 r1=>
  have hl:vs.toArray.size=n:=r1.length.trans e
  Gw (items:=vs.toArray) ⟨_,h1,rfl,m,rfl⟩ (by refine eW hl ?_;lia) (hl▸eP _ W (.int _ _))
 (EV.Ad (P:=λa=>cE C G O h₀ s.heap v a->_) e
   (λd e R=>Ap e λxs h e=>(FV.Qp (P:=λd=>Rep C G v d->_) h
     (λR=>tupI W R λa vs m h1 r1=>have hl:vs.toArray.size=n:=r1.length.trans (ag e)
       len_tuple (items:=vs.toArray) ⟨_,h1,rfl,m,rfl⟩ (by refine eW hl ?_;lia) (hl▸eP _ W (.int _ _)))
     λR=>lst (a:=.fv (.list xs)) (h₀:=h₀) R rfl (ag e)) R)
   λt e R=>oe e (λ_ e=>Ap e λiG h1 e=>xE R λρ R=>(OT.Ky (P:=λt=>dM C G O s.heap (λk=>some (ρ k)) v t->_) h1 λR=>fS R λa vs m hv _ _ _ h1 q=>by
    subst hv
    have hl:vs.size=n:=(bC.symm.trans q.length).trans (ag e);exact Gw (items:=vs) ⟨_,h1,rfl,m,rfl⟩ (by refine eW hl ?_;lia) (hl▸eP _ W (.int _ _))) R)
    λo h1 e=>Ap e λxs h2 e=>lst (a:=.bor t) (h₀:=h₀) R (bs h1 h2) (ag e)) R
theorem zo(a b c:Int):0<=b8 a b c:=by
 unfold b8;split<;>split<;>first|lia|(have:=RC (a:=b-a-1) (b:=c) (by lia) (by lia);omega)|(have:=RC (a:=a-b-1) (b:= -c) (by lia) (by lia);omega)
theorem C_{a b c:Int}{acc:Array aB}(hs:acc.size=(b8 a b c).toNat)(hi:∀(i:Nat)(v:aB),acc[i]?=some v->∃t,v=.int (a+i*c) t):bB C G acc.toList ((oQ a b c).map .int):=
 Fc (by rw[aj,oQ,aj,aq];exact hs) λi w d h1 h2=>get_map h2 λj h3 e=>get_map h3 λn h4 e2=>xE (c9.mp h4) λh5 h6=>xE (hi i w ((pB).symm.trans h1)) λt e3=>by
  subst e3 e e2;exact eL ((IX h5).symm.trans h6)<|.int _ _
theorem z2(e:fits xs=some ys)(k:cg xs.length=true->xs=ys->P):P:=dU e λh e=>k h (ag e)
theorem TU{a:EV}{own:Bool}(hh:A.handled=none)(W:bz C G wl s.heap)(R:cE C G O h₀ s.heap v a)(e:listItems a=some xs):
 aK C.M A (call (.type "list") [v]) (PE C G O s (if own then .own (.ob (.list xs))else .fv (.list xs)) wl) ee s:=
 have lst:∀{x:List FV}{a:EV}{h₀:eu}{u:aB},cE C G O h₀ s.heap u a->a.eh=some x->fits x=some xs->aK C.M A (call (.type "list") [u]) (PE C G O s (if own then .own (.ob (.list xs))else .fv (.list xs)) wl) ee s:=λR ha e=>z2 e λhn e=>
  have hz:=dN hn
  listI W R ha λa vs m h1 r1=>e▸call_list_seq a (.inl rfl) h1 rfl rfl (λh' c' k ho=>qA W k ho r1) (by have:=r1.length;refine eW cj<|eW this<|eW dp ?_;lia)
 (EV.Ad (P:=λa=>cE C G O h₀ s.heap v a->_) e
   (λd e R=>oe e (λ_ e=>ob e λr h1 e=>dU e λPa e=>(FV.VH (P:=λd=>Rep C G v d->_) h1 λR=>m8 R.inv λIi t u w hv hr=>rW Pa λ(Yt:jI r.1 r.2.1 r.2.2=true) _ ho2=>by
     subst hv
     have hz:(b8 r.1 r.2.1 r.2.2).toNat<=2^20:=dN ho2
     have h0:=zo r.1 r.2.1 r.2.2;exact call_list_range (n:=(b8 r.1 r.2.1 r.2.2).toNat) hh (W.sub _ _ hr) Yt (I0 h0).symm (by lia) λh' tk acc c' k ho hi=>ag e▸qA (vs:=acc.toList) W k ho (C_ hi.1 hi.2)) R)
     λx h e=>(FV.Qp (P:=λd=>Rep C G v d->_) h
      (λR=>z2 e λhn e=>have hz:=dN hn
        tupI W R λa vs m h1 r1=>e▸call_list_seq a (.inr rfl) h1 rfl rfl (λh' c' k ho=>qA W k ho r1) (by have:=r1.length;refine eW cj<|eW this<|eW dp ?_;lia))
      λR=>lst (a:=.fv (.list x)) (h₀:=h₀) R rfl e) R)
   λt e R=>ob e λx h e=>lst (a:=.bor t) (h₀:=h₀) R h e) R
theorem XC{a:EV}{is:List Int}(hh:A.handled=none)(W:bz C G wl s.heap)(R:cE C G O h₀ s.heap v a)(e:a.eh=some xs)(e2:eZ xs=some is):
 aK C.M A (call (.builtin "sum") [v]) (PE C G O s (.fv (.int is.sum)) wl) ee s:=listI W R e λa vs m h1 r1=>
 have hi:=fE r1 e2
 xE hi.allInts.items λys hys=>sum_intListG hh (show s.heap.IsList a (intItems ys)from hys▸⟨_,h1,rfl,m,rfl⟩) λh' tk t' k=>
  ⟨G,.grow _ _ k,W.grow k,by
    have hn:=hi.numsOf;rw[show vs=vs.toArray.toList from rfl,hys,nums_intItems]at hn;rw[preSum_eq,List.take_of_length_le (by simp),hn];exact .int _ _⟩
theorem Oq(n:Int):(if n<0 then -n else n)=(n.natAbs:Int):=by
 induction n using Int.casesOn with
 |ofNat k=>exact if_neg (pq.mpr (bJ k))
 |negSucc k=>exact if_pos (Int.negSucc_lt_zero k)
theorem Qt{c:Prop}[Decidable c]{a b:Int}{t t':Tok}(k:∀x o,s.heap.get? x=some o->h.get? x=some o)(W:bz C G wl s.heap):PE C G O s (.fv (.int (if c then a else b))) wl (if c then .int a t else .int b t') {s with heap:=h,toks:=tk}:=
 ⟨G,.grow _ _ k,W.grow k,by split<;>exact .int _ _⟩
theorem N4{b:BI}{own:Bool}{args:List EV}{x:EV}(hb:b≠.sorted)(hh:A.handled=none)(B:Base C)(W:bz C G wl s.heap)(T:u7 C G O h₀ s.heap i vs args)(e:ju b own args=some x):
 aK C.M A (call b.val vs) (PE C G O s x wl) ee s:=by
 revert T
 induction b using BI.casesOn with
 |len=>exact qK e λa e T=>ob e λn h e=>dU e λhz e=>ag e▸Ed (P:=λvs=>aK C.M A (call (.builtin "len") vs) _ ee s) T h λv R=>XD W R h hz
 |range=>
  exact Qx e (λe=>qK e λa e=>om e λn h=>n7 h λT=>ints1 T λt=>call_range_1 (l8 _ _ rfl W λG' x1 x2=>.range x2)) λe=>Qx e
   (λe=>Ez e λa b e=>ob e λn h1 e=>om e λm h2=>n7 h1 (n7 h2 λT=>ints2 T λt t'=>call_range_2 (l8 _ _ rfl W λG' x1 x2=>.range x2)))
   λe=>TY e λa b c e=>ob e λn h1 e=>ob e λm h2 e=>ob e λl h3 e=>dU e λhc e=>ag e▸n7 h1 (n7 h2 (n7 h3 λT=>ints3 T λt t' Yk=>call_range_3 hc.1 (l8 _ _ rfl W λG' x1 x2=>.range x2) (.inl (PyProof.noPylong_small hc.2))))
 |list=>exact qK e λa e=>om e λxs h T=>Ed (P:=λvs=>aK C.M A (call (.type "list") vs) _ ee s) T h λv R=>TU (own:=own) hh W R h
 |set=>exact dU e λh e=>an h λh _=>ag e▸l0 (P:=λargs=>u7 C G O h₀ s.heap i vs args->_) h λT=>bB.Kn (P:=λvs=>aK C.M A (call (.type "set") vs) _ ee s) (uV T rfl) (LR (Dj s.toks rfl W λO' hO=>⟨_,rfl,hO,gr W,gM W,ym (hC rfl),eC,tI (hC rfl)⟩))
 |abs=>exact qK e λa e=>om e λn h=>n7 h λT=>ints1 T λt=>call_abs_int λu tk=>Oq n▸eP tk W (.int _ _)
 |int=>exact qK e λa e=>om e λn h=>ob h λd h1 h2=>eg h1 (oe h2 (λ_ h2=>om h2 λb h2=>FV.XF h2 λT=>fv1 T λv R=>Q7 R (call_int_bool (eP _ W (.int _ _)))) λm h2 e=>ag e▸FV.D2 h2 λT=>ints1 T λt=>call_int_int (mj W (.int _ _)))
 |max=>exact Ez e λa b e=>ob e λn h1 e=>om e λm h2=>n7 h1 (n7 h2 λT=>ints2 T λt t'=>max_two_ints hh λh' tk k=>Qt k W)
 |min=>exact Ez e λa b e=>ob e λn h1 e=>om e λm h2=>n7 h1 (n7 h2 λT=>ints2 T λt t'=>min_two_ints hh λh' tk k=>Qt k W)
 |sum=>exact qK e λa e T=>ob e λxs h1 e=>ob e λis h2 e=>dU e λ_ e=>ag e▸Ed (P:=λvs=>aK C.M A (call (.builtin "sum") vs) _ ee s) T h1 λv R=>XC hh W R h1 h2
 |sorted=>exact absurd rfl hb
theorem zF{f:aB}{M:Model}(hf:∀a,f≠.ref a):pn M f h:=by
 refine⟨.machine,.inr (.inl rfl),?_⟩;induction f using eT<;>first|exact Looks.now|exact absurd rfl (hf _)
theorem BI.E1(b:BI):∀a,b.val≠.ref a:=by induction b using BI.casesOn<;>intro a h<;>cases h
def Mi(C:Cx):Prop:=∀{A:fF}{G:Gh}{O:aO->Option Role}{s:aN}{wl:WL}{a:EV}{xs:List Int}{v:aB}{h₀:eu},A.handled=none->bz C G wl s.heap->cE C G O h₀ s.heap v a->Dl a=some xs->
 aK C.M A (call (.builtin "sorted") [v]) (PE C G O s (.fv (.list ((fV xs).map .int))) wl) ee s
def lH(env:ra)(h:eu)(x:bA)(v:aB):Prop:=
 (env.kindOf x=some .local/\∃m,h.Ns env.locals m/\m x=some v)\/(env.kindOf x≠some .local/\∃c,env.cells.lookup x=some c/\h.IsCell c (some v))
theorem Ft{m m':bA->Option aB}(x:h.Ns L m)(y:h.Ns L m'):m=m':=by
 (refine kP x ?_;clear x;intro o es ep h1 h2 _ h3)
 (refine kP y ?_;clear y;intro o' YB YC CD Xf _ h3')
 rw[h1]at CD;cases CD;rw[h2]at Xf;cases Xf
 funext z
 exact eL (h3 z)<|eL (h3' z) rfl
theorem H0{c:aO}{v v':Option aB}(x:h.IsCell c v)(y:h.IsCell c v'):v=v':=by
 (refine bS x ?_;clear x;intro o h1 h2)
 (refine bS y ?_;clear y;intro o' CD Xf)
 rw[h1]at CD;cases CD;rw[h2]at Xf;cases Xf;rfl
theorem lH.at_(n:lH env h x v)(q:c7 h h' env.locals)(q2:env.kindOf x≠some .local->∀c,env.cells.lookup x=some c->c7 h h' c):lH env h' x v:=by
 rcases n with⟨h1,m,h2,h3⟩|⟨h1,c,h2,o,h3,h4⟩
 . exact .inl ⟨h1,m,h2.at' q,h3⟩
 . exact .inr ⟨h1,c,h2,o,q2 h1 c h2 _ h3,h4⟩
theorem zB(F:cL C G O sc ns env fr h)(hx:ns[i]?=some x)(hs:fr[i]?=some sl)(hw:sl≠.unset):∃v,lH env h x v/\cV C G O h i sl (some v):=by
 by_cases hk:env.kindOf x=some .local
 · (refine bS (F.loc) λm hm q=>?_)
   have S:=q i x sl hx hs hk;induction e:m x using aA with
   |none=>
    rw[e]at S;induction sl using Slot.casesOn with
    |unset=>exact absurd rfl hw
    |val d=>(refine bS S ?_;clear S;intro v e _);exact nn e
    |ro d=>(refine bS S ?_;clear S;intro v e _);exact nn e
    |own t=>(refine bS S ?_;clear S;intro v e _);exact nn e
    |bor t=>(refine bS S ?_;clear S;intro v e _);exact nn e
   |some v=>exact⟨v,.inl ⟨hk,m,hm,e⟩,e▸S⟩
 . (refine m_ (F.p9 i x sl hx hs hk) λ_ c ov e1 e2 q1=>?_;refine xA q1 ?_;clear q1;intro S _)
   induction ov using aA with
   |none=>
    induction sl using Slot.casesOn with
    |unset=>exact absurd rfl hw
    |val d=>(refine bS S ?_;clear S;intro v e _);exact nn e
    |ro d=>(refine bS S ?_;clear S;intro v e _);exact nn e
    |own t=>(refine bS S ?_;clear S;intro v e _);exact nn e
    |bor t=>(refine bS S ?_;clear S;intro v e _);exact nn e
   |some v=>exact⟨v,.inr ⟨hk,c,e1,e2⟩,S⟩
theorem lH.step(n:lH env s.heap x v)(F:cL C G O sc ns env fr s.heap)(hx:ns[i]?=some x)(hs:fr[i]?=some sl)(X:Step C G G' s s'):lH env s'.heap x v:=
 n.at_ (X.at_ (F.iK _ _ F.lN).2.1) λhk c qY=>by
  (refine fo (F.p9 i x _ hx hs hk) λ_ c' _ e1 _ _ _ e5 _=>?_)
  rw[qY]at e1;cases e1;exact X.at_ e5
theorem cL.mut{t':OT}(F:cL C G O sc ns env fr h)(hx:ns[i]?=some x)(hs:fr[i]?=some (.own t))(hO:O a=some (.own i κ))(sb:∀b,b≠a->c7 h h' b)(al:∃o,h'.get? a=some o)
 (hn:lH env h x v)(T:dM C G O h' (λk=>some (.own i k)) v t'):cL C G O sc ns env (fr.set i (.own t')) h':=by
 have hi:i<fr.length:=by
  induction q:decide (i<fr.length)using ax with
  |true=>exact of_decide_eq_true q
  |false=>rw[ba (bu (of_decide_eq_false q))]at hs;exact nn hs
 have nl:env.locals≠a:=λq=>by have:=F.lN;rw[q,hO]at this;cases this
 have other:∀{j:Nat}{sl:Slot}{ov:Option aB},j≠i->cV C G O h j sl ov->cV C G O h' j sl ov:=λ{j sl ov} hj S=>by
  refine S.move λb r hb hk=>⟨hb,sb b λq=>?_⟩;subst q;rw[hO]at hb;cases hb;rcases hk with hk|⟨k,hk⟩
  . exact Role.noConfusion hk
  . cases hk;exact hj rfl
 refine⟨F.fn,F.glob,F.bi,F.nodup,by refine eW lq ?_;exact F.len,λb r e=>?_,F.gl,F.cl,F.lN,?_,λj y sl hy eE hk=>?_,F.iS,F.code,λhm j y d hy eE=>?_⟩
 . (refine mF (F.iK b r e) λh1 h2 o h3=>?_)
   refine⟨h1,h2,?_⟩;by_cases q:b=a
   . subst q;exact al
   . exact⟨o,sb b q _ h3⟩
 . (refine bS (F.loc) λm hm q=>?_)
   refine⟨m,hm.at' (sb _ nl),λj y sl hy eE hk=>?_⟩;by_cases hj:j=i
   . subst hj
     rw[hx]at hy;cases hy;rw[cu hi]at eE;cases eE;rcases hn with⟨_,m',UE,e⟩|⟨h1,_⟩
     . exact eW (Ft hm UE)<|eW e<|⟨v,rfl,T⟩
     . exact absurd hk h1
   . rw[b_ (d5 hj)]at eE
     exact other hj (q j y sl hy eE hk)
 . by_cases hj:j=i
   . subst hj
     rw[hx]at hy;cases hy;rw[cu hi]at eE;cases eE
     (refine fo (F.p9 j x _ hx hs hk) λsO c ov e1 q2=>?_;obtain⟨oc,e2,Lz⟩:=q2;intro e3 e4 e5 e6)
     have hc:c≠a:=λq=>by
      rw[q,hO]at e4;simp only[Slot.writable,if_true]at e4;cases e4
     rcases hn with⟨h1,_⟩|⟨_,c',h2,h3⟩
     . exact absurd h1 hk
     . rw[e1]at h2;cases h2
       have:=H0 ⟨oc,e2,Lz⟩ h3;subst this;exact⟨sO,c,some v,e1,⟨oc,sb c hc _ e2,Lz⟩,⟨v,rfl,T⟩,e4,e5,e6⟩
   . rw[b_ (d5 hj)]at eE
     (refine fo (F.p9 j y sl hy eE hk) λsO c ov e1 q3=>?_;obtain⟨oc,e2,Lz⟩:=q3;intro e3 e4 e5 e6)
     have hc:c≠a:=λq=>by
      rw[q,hO]at e4;split at e4<;>cases e4
     exact⟨sO,c,ov,e1,⟨oc,sb c hc _ e2,Lz⟩,other hj e3,e4,e5,e6⟩
 . by_cases hj:j=i
   . subst hj
     rw[cu hi]at eE;cases eE
   . rw[b_ (d5 hj)]at eE
     exact F.ro hm j y d hy eE
structure Upd(C:Cx)(G:Gh)(O:aO->Option Role)(h:eu)(a:aO)(G2:Gh)(h':eu):Prop where
 ext:Ext G G2
 iK:∀b r,O b=some r->G2.F b=none/\eQ C G2 b
 same:∀b r,O b=some r->b≠a->c7 h h' b
theorem dI.upd{u9:Role}{o:OB}(U:Upd C G O h a G' h')(hr:O a≠some u9)(y:dI C G O h (some u9) v o):dI C G' O h' (some u9) v o:=by
 (refine m9 y ?_;clear y;intro b hv hO lC hF hc)
 have k:=U.same b _ hO λq=>hr (q▸hO)
 (refine xA (U.iK b _ hO) λd1 d2=>?_)
 induction o using OB.casesOn with
 |list xs=>(refine gg hc ?_;clear hc;intro vs n e q);exact⟨b,hv,hO,d2,d1,vs,n,k _ e,q.mono U.ext⟩
 |dict es=>
  (refine m_ hc ?_;clear hc;intro hs f vs e q1 q4;refine jN q4 ?_;clear q4;intro q2 q3 q4)
  (refine xE (fZ e) λo ho=>?_)
  exact⟨b,hv,hO,d2,d1,hs,f,vs,lz k e,q1.mono U.ext,q2,lh k ho q3,q4⟩
 |set xs=>exact⟨b,hv,hO,d2,d1,oJ k hc.1,hc.2.1,hc.2.2.at_ k⟩
theorem gw.upd(U:Upd C G O h a G' h')(hr:∀l,j<=l->O a≠some (.own i l))(y:gw C G O h (λk=>some (.own i k)) j vs iG):gw C G' O h' (λk=>some (.own i k)) j vs iG:=
 y.ind (P:=λj vs iG=>(∀l,j<=l->O a≠some (.own i l))->gw C G' O h' (λk=>some (.own i k)) j vs iG) (λ_ _=>trivial) (λj _ _ _ _ x _ ih hr=>⟨x.upd U (hr j (aT _)),ih λl hl=>hr l (fN hl)⟩) hr
theorem uH(h:O a=some (.own i j))(e:O a=some (.own i k)):j=k:=(Role.own.inj (ag (h.symm.trans e))).2
theorem gw.Jj{l:Nat}(U:Upd C G O h a G' h')(hO:O a=some (.own i (j+l)))(hl:l<iG.length)(R:dI C G' O h' (some (.own i (j+l))) (.ref a) (.list ys))(hv:vs[l]?=some (.ref a))
 (y:gw C G O h (λk=>some (.own i k)) j vs iG):gw C G' O h' (λk=>some (.own i k)) j vs (iG.set l ys):=
 y.ind (P:=λj vs iG=>∀l,O a=some (.own i (j+l))->l<iG.length->dI C G' O h' (some (.own i (j+l))) (.ref a) (.list ys)->vs[l]?=some (.ref a)->gw C G' O h' (λk=>some (.own i k)) j vs (iG.set l ys)) (λ_ _ _ hl=>absurd hl (dy _))
  (λj w vs xs r y1 y2 ih l=>l.casesOn (motive:=λl=>O a=some (.own i (j+l))->l<(xs::r).length->dI C G' O h' (some (.own i (j+l))) (.ref a) (.list ys)->(w::vs)[l]?=some (.ref a)->gw C G' O h' (λk=>some (.own i k)) j (w::vs) ((xs::r).set l ys))
    (λhO _ R hv=>⟨(ag hv:w=_)▸R,y2.upd U λl hl e=>bx hl (uH hO e)⟩)
    λl hO hl R hv=>⟨y1.upd U λe=>e_ (eN (uy l)) (uH hO e),ih l ((dc j 1 l).symm▸hO) (EP hl) ((dc j 1 l).symm▸R) hv⟩) l hO hl R hv
theorem f6.upd{u9:Role}{o:OF}(U:Upd C G O h a G' h')(hr:O a≠some u9)(y:f6 C G O h (some u9) v o):f6 C G' O h' (some u9) v o:=by
 induction o using OF.casesOn with
 |fv d=>exact Rep.mono U.ext y
 |ob o=>exact dI.upd U hr y
theorem gb.upd(U:Upd C G O h a G' h'){es:List b7}(hr:∀k∈fs.map (·.1),O a≠some (.own i (k+2)))(y:gb C G O h (λk=>some (.own i k)) es fs):gb C G' O h' (λk=>some (.own i k)) es fs:=
 y.ind (P:=λes fs=>(∀k∈fs.map (λp:Nat×OF=>p.1),O a≠some (.own i (k+2)))->gb C G' O h' (λk=>some (.own i k)) es fs) (λ_=>trivial) (λ_ _ p _ a b c _ ih hr=>⟨a,b,c.upd U (hr p.1 a7),ih λj hj=>hr j (aW p.1 hj)⟩) hr
theorem gb.Jj{l:Nat}{o:OB}{es:List b7}(U:Upd C G O h a G' h')(hO:O a=some (.own i (l+2)))(R:dI C G' O h' (some (.own i (l+2))) (.ref a) o')(nd:(fs.map (·.1)).Nodup)(hl:fs.lookup l=some (.ob o))
 (hg:getL (attrName l) es=some (some (.ref a)))(h15:l<15)(y:gb C G O h (λk=>some (.own i k)) es fs):gb C G' O h' (λk=>some (.own i k)) es (putField fs l (.ob o')):=
 y.ind (P:=λes fs=>(fs.map λp:Nat×OF=>p.1).Nodup->fs.lookup l=some (.ob o)->getL (attrName l) es=some (some (.ref a))->gb C G' O h' (λk=>some (.own i k)) es (putField fs l (.ob o'))) (λ_ h=>nn h)
  (λe es p fs q hk y1 y2 ih nd hl hg=>by
    induction p using oz;rename_i k x;refine xA (cp.mp nd) λn1 n2=>xE q λt ht=>?_
    show gb C G' O h' _ (e::es) (if k=l then(l,OF.ob o')::fs else(k,x)::putField fs l (.ob o'));by_cases e0:k=l
    . refine eW (if_pos e0) ?_
      subst e0
      have hv:e.val=.ref a:=ag (ag ((wx (i3:=es) (e:=e) (name:=attrName k) (key_is ht hk hk (beq_self_eq_true k))).symm.trans hg));exact⟨⟨t,ht⟩,hk,(show dI C G' O h' _ e.val o' from hv▸R),y2.upd U λj hj e=>n1 (qV (uH hO e)▸hj)⟩
    . refine eW (if_neg e0) ?_
      exact V_ hl (λe _=>absurd e.symm e0) λhb hlk=>bS (sR h15 y2 hlk) λw q1 _=>⟨⟨t,ht⟩,hk,y1.upd U λe=>e0 (qV (uH hO e)).symm,
       ih n2 hlk (q1.trans ((sP (e:=e) (key_is ht hk h15 (beq_eq_false_iff_ne.mpr e0)) q1).symm.trans hg))⟩) nd hl hg
section
variable {G0:Gh}
def vo:OB->OB->Prop
 |.list _,.list _=>True
 |.dict _,.dict _=>True
 |.set _,.set _=>True
 |_,_=>False
structure lG(C:Cx)(G:Gh)(O:aO->Option Role)(env:ra)(ns:List bA)(fr:List Slot)(h:eu)(i κ:Nat)(x:bA)(a:aO)(ob:OB)(put:OB->List Slot)(t:OT):Prop where
 hx:ns[i]?=some x
 hs:fr[i]?=some (.own t)
 hO:O a=some (.own i κ)
 rep:dI C G O h (some (.own i κ)) (.ref a) ob
 put:∃v,lH env h x v/\∀o',vo ob o'->∃t',put o'=fr.set i (.own t')/\∀G2 h',Upd C G O h a G2 h'->dI C G2 O h' (some (.own i κ)) (.ref a) o'->dM C G2 O h' (λk=>some (.own i k)) v t'
def w9(C:Cx)(bp:my)(k:Nat)(sc:Sc)(ns:List bA)(o:af)(p:Path):Prop:=
 ∀(G:Gh)(O:aO->Option Role)(env:ra)(A:fF)(s:aN)(fr:List Slot)(wl:WL)(ob:OB)(put:OB->List Slot)(bQ:WL),kD bp p fr wl=some ((ob,put),bQ)->Here C G O sc ns env fr wl k A s->
  aK C.M A (eval o env) (λv aM=>∃G1 a κ t i x,v=.ref a/\Step C G G1 s aM/\bz C G1 bQ aM.heap/\lG C G1 O env ns fr aM.heap i κ x a ob put t) ee s
theorem mK(F:cL C G O sc ns env fr s.heap)(hx:∃i:Nat,ns[i]?=some x)(hc:(x==("__classdict__":bA))=false)(n:lH env s.heap x v){M:Model}(h:Q v s):aK M A (loadName env x) Q E s:=by
 rcases n with⟨h1,m,h2,h3⟩|⟨h1,c,h2,h3⟩
 . exact P' F.fn h1 h2 h3 h
 . (refine xE hx ?_;clear hx;intro i hi)
   have hl:i<fr.length:=by
    refine eW F.len ?_;induction q:decide (i<ns.length)using ax with
    |true=>exact of_decide_eq_true q
    |false=>rw[ba (bu (of_decide_eq_false q))]at hi;exact nn hi
   rcases(F.p9 i x _ hi (aV hl) h1).1 with hk|hk
   . exact Rk F.fn hk h2 h3 h
   . exact Rg F.fn hk h2 h3 h hc
@[elab_as_elim] theorem Sr{α:Type u}{β:Type v}{γ:Type w}{δ:Type z}{o:Option α}{f:α->(β×γ)×δ}{b:β}{c:γ}{d:δ}{P:β->γ->δ->Prop}(h:o.map f=some ((b,c),d))(k:∀a,o=some a->P (f a).1.1 (f a).1.2 (f a).2):P b c d:=om (P:=λx=>P x.1.1 x.1.2 x.2) h k
theorem Dk(F:cL C G O sc ns env fr h)(hx:ns[i]?=some x)(q:(fr[i]?).bind Slot.own?=some t)(k:∀v,fr[i]?=some (.own t)->lH env h x v->dM C G O h (λk=>some (.own i k)) v t->P):P:=
 ob q λsl h1 h2=>(Slot.vw (P:=λsl=>fr[i]?=some sl->P) h2 λhs=>bS (zB F hx hs nofun) λv n S=>bS S λw e T=>k v hs n (ag e▸T)) h1
theorem ZA{pos:dK}(hx:ns[i]?=some x)(hd:(x==("__debug__":bA))=false)(hc:(x==("__classdict__":bA))=false):w9 C bp k sc ns (.Name x pos) (.v i):=λG O env A s fr wl o put bQ q H=>
 ob q λt q q2=>Dk H.F hx q λv hs n T=>Sr q2 λo h1=>(OT.zw (P:=λt=>fr[i]?=some (.own t)->dM C G O s.heap (λk=>some (.own i k)) v t->_) h1 λhs T=>dT T λa hv hO _=>
  qN (mK H.F ⟨i,hx⟩ hc n ⟨G,a,0,_,i,x,hv,.refl C G s,H.W,hx,hs,hO,hv▸T,v,n,λo' _=>⟨.ob o',rfl,λG2 h' U R=>hv▸R⟩⟩) hd) hs T
theorem Upd.Ld{b:aO}{r:Role}(U:Upd C G O h a G' h')(e:O b=some r):eQ C G' b:=(U.iK b r e).2
theorem Bb{o:OF}:∀{fs:List (Nat×OF)}{z:OF},fs.lookup j=some z->(putField fs j o).map (·.1)=fs.map (·.1)
 |[],_,h=>nn h
 |(k,w)::fs,z,h=>by
  unfold putField;by_cases e:k=j
  . exact eW (if_pos e)<|eW bT<|eW bT<|eW e rfl
  . rw[if_neg e,bT,bT,Bb (z:=z) (by rw[bL,beq_eq_false_iff_ne.mpr (d5 e)]at h;exact h)]
theorem Gn(h:gC[j]?=some y):y=attrName j:=by unfold attrName;refine eW mf<|eW h ?_;rfl
theorem VP{pos:dK}(hx:ns[i]?=some x)(hd:(x==("__debug__":bA))=false)(hc:(x==("__classdict__":bA))=false)(hy:gC[j]?=some y)(hj:j<15):
 w9 C bp k sc ns (.Attribute (.Name x p) y pos) (.fld i j):=λG O env A s fr wl o put bQ q H=>
 ob q λt q q2=>Dk H.F hx q λv hs n T=>ob q2 λcf h1 q3=>Sr q3 λo h2=>(OT.rO (P:=λt=>fr[i]?=some (.own t)->dM C G O s.heap (λk=>some (.own i k)) v t->_) h1 λhs T=>
  ob h2 λz hl h3=>(OF.zw (P:=λz=>cf.2.lookup j=some z->_) h3 λhl=>have HQ:=T.1;m8 T.2 λxa d i3 m hv R=>iQ R λhO lC hF e uP R=>iQ R λPb QV BN ed q nd=>
   bS (sR hj q hl) λw g1(R:dI C G O s.heap (some (.own i (j+2))) w o)=>dT R λa hw QS _=>by
    subst hw hv;refine Lx rfl (qN (mK H.F ⟨i,hx⟩ hc n ?_) hd);refine eW (Gn hy) ?_;refine jN (H.base.wM _ HQ) λc1 c2 c3=>bS (H.base.z8 _ j HQ hj) λattr ca cn=>get_value (QF H.base H.W) ⟨e,rfl,rfl,ed⟩ c1 (findObj_own (od:=dictOf i3 m) c3 ca cn g1) rfl ?_
    have nx:xa≠a:=λq=>absurd (Role.own.inj (ag ((hO.symm.trans (congrArg O q)).trans QS))).2 (by unfold n3;lia)
    have nd':d≠a:=λq=>absurd (Role.own.inj (ag ((uP.symm.trans (congrArg O q)).trans QS))).2 (by omega);exact⟨G,a,j+2,_,i,x,rfl,.tok C G s _,H.W,hx,hs,QS,R,_,n,λo' _=>⟨.inst cf.1 (putField cf.2 j (.ob o')),rfl,λG2 h' U R'=>
     ⟨HQ,xa,d,i3,m,rfl,hO,U.Ld hO,(U.iK _ _ hO).1,U.same _ _ hO nx _ e,uP,U.Ld uP,(U.iK _ _ uP).1,BN,U.same _ _ uP nd' _ ed,gb.Jj U QS R' nd hl g1 hj q,(Bb hl).symm▸nd⟩⟩⟩) hl) hs T
theorem ZD{pos:dK}(hx:ns[i]?=some x)(hd:(x==("__debug__":bA))=false)(hc:(x==("__classdict__":bA))=false)(he:dS C bp k sc ns e ie)(hn:gq e=true):
 w9 C bp k sc ns (.Subscript (.Name x p) e pos) (.at i ie):=λG O env A s fr wl o put bQ q H=>
 ob q λt q q2=>Dk H.F hx q λv hs n T=>ob q2 λiG h1 q2=>f9 q2 λy w1 q1 q2=>ob q2 λj h2 q2=>dU q2 λhb q2=>Sr q2 λxs hl=>(OT.Ky (P:=λt=>fr[i]?=some (.own t)->dM C G O s.heap (λk=>some (.own i k)) v t->_) h1 λhs T=>
  fS T λla vs m hv hO lC hF eo q=>by
   subst hv;refine EO (qN (mK H.F ⟨i,hx⟩ hc n ?_) hd);refine he.run H q1 λu aM G1 x1 H1 R1=>?_;refine iA R1 h2 λt=>?_;refine bS (q.get hl) λw g1(R:dI C G O s.heap (some (.own i (1+j.toNat))) w (.list xs))=>dT R λa hw QS _=>?_;subst hw
   have eo1:=x1.keep _ _ lC eo
   have R:=dI.step x1 R
   have q':=q.step x1
   have n1:=n.step H.F hx hs x1;refine qi (T:="list") ⟨_,eo1,rfl⟩ kG.lookup (item_list (i:=j) (vs:=vs.toList) (by simpa using eo1) (decide_eq_true (by omega)) (by unfold Fs;exact eW (if_pos hb.1)<|g1) ?_) (jj hn _ _);refine⟨G1,a,1+j.toNat,_,i,x,rfl,x1,H1.W,hx,hs,QS,R,_,n1,λo' pZ=>?_⟩
   have nl:la≠a:=λq=>absurd (Role.own.inj (ag ((hO.symm.trans (congrArg O q)).trans QS))).2 (by lia);induction o' using OB.casesOn with
   |list ys=>exact⟨.gu (iG.set j.toNat ys),rfl,λG2 h' U R'=>⟨la,vs,m,rfl,hO,U.Ld hO,(U.iK _ _ hO).1,U.same _ _ hO nl _ eo1,gw.Jj U QS (fB hl) R' g1 q'⟩⟩
   |dict _=>exact pZ.elim
   |set _=>exact pZ.elim) hs T
end
section
variable {G0:Gh}
theorem bX.Kq(x:bX C G G' O O' s s')(n:s.heap.get? a=none\/qk O a)(k:∀b,b≠a->c7 s'.heap h' b)(al:∃o',h'.get? a=some o'):bX C G G' O O' s {s' with heap:=h',toks:=tk}where
 ext:=x.ext
 keep:=λb o f hn e=>by
  have:b≠a:=λq=>by
   subst q;rcases n with n|n
   . rw[n]at e;exact nn e
   . exact hn n
  exact k b this _ (x.keep b o f hn e)
 alive:=λb o e=>by
  (refine xE (x.alive b o e) λo' e'=>?_)
  by_cases q:b=a
  . subst q;exact al
  . exact⟨o',k b q _ e'⟩
 lx:=x.lx
 kB:=x.kB
 own:=x.own
 Oi:=x.Oi
 Nv:=x.Nv
 gens:=x.gens
 os:=x.os
theorem yr{ob:OB}{put:OB->List Slot}(X:Step C G0 G1 s0 aM)(F1:cL C G1 O sc ns env fr aM.heap)(P:lG C G1 O env ns fr aM.heap i κ x a ob put t)
 (x2:Step C G1 G2 aM b0)(W2:bz C G2 wl b0.heap)(sk:vo ob o')(k:∀b,b≠a->c7 b0.heap h' b)(al:∃o,h'.get? a=some o)(R:dI C G2 O h' (some (.own i κ)) (.ref a) o'):
 bX C G0 G2 O O s0 {b0 with heap:=h',toks:=tk}/\bz C G2 wl h'/\cL C G2 O sc ns env (put o') h':=by
 (refine bS (P.put) λv n f=>?_)
 (refine bS (f o' sk) λt' e g=>?_)
 have F2:=F1.step x2
 (refine jN (F2.iK _ _ P.hO) λd1 d2 _=>?_)
 refine⟨(X.trans x2).o.Kq (.inr ⟨_,P.hO,by intro e;exact Role.noConfusion e⟩) k al,W2.loose d1 d2 k,?_⟩;refine eW e ?_;refine F2.mut P.hx P.hs P.hO k al (n.step F1 P.hx P.hs x2) (g G2 h' ⟨x2.ext,λb r e=>⟨(F2.iK b r e).1,(F2.iK b r e).2.1⟩,λb r e nb o ho=>?_⟩ R);exact k b nb _ (x2.keep b o (F1.iK b r e).2.1 ho)
theorem rz{ob:OB}{put:OB->List Slot}(X:Step C G0 G1 s0 aM)(F1:cL C G1 O sc ns env fr aM.heap)(P:lG C G1 O env ns fr aM.heap i κ x a ob put t)
 (x2:Step C G1 G2 aM b0)(W2:bz C G2 wl b0.heap)(sk:vo ob o')(k:∀b,b≠a->c7 b0.heap h' b)(al:∃o,h'.get? a=some o)(R:dI C G2 O h' (some (.own i κ)) (.ref a) o'):
 PU C G0 O sc ns env s0 (put o') wl {b0 with heap:=h',toks:=tk}:=
 let⟨h1,h2,h3⟩:=yr (tk:=tk) X F1 P x2 W2 sk k al R
 ⟨G2,O,h1,h2,h3⟩
theorem lu(R:dI C G O h r (.ref a) (.list xs)):O a=r/\eQ C G a/\G.F a=none/\∃vs n,h.get? a=some {cls:=.type "list",data:=.seq vs n}/\bB C G vs.toList xs:=bS R λb e h=>xf e▸h
theorem Kf{es:List (Int×FV)}(R:dI C G O h r (.ref a) (.dict es)):O a=r/\eQ C G a/\G.F a=none/\(a==sysModules)=false/\∃f vs,h.MapOf (ik C) a f/\bB C G vs (es.map (·.2))/\(∀k,f k=((es.map (·.1)).zip vs).lookup k)/\h.DictLe a es.length/\(es.map (·.1)).Nodup:=bS R λb e h=>xf e▸h
theorem rm{f:Array aB->Array aB}{vs:Array aB}{n:Nat}(ho:h.get? a=some {cls:=.type "list",data:=.seq vs n}):
 ∃n',(h.update a (o_ f)).get? a=some {cls:=.type "list",data:=.seq (f vs) n'}:=
 ⟨_,get?_update_seq (c:="list") ho f⟩
theorem vJ{o:af}{id:String}{T:String}{pos:dK}{ob:OB}{put:OB->List Slot}{w1 w2:WL}{x:EV}{Q:Flow->aN->Prop}(hb:∀env,attributeBase o name env (eval o env)=eval o env)
 (pa:PlainAttrs T)(slot:Iw T name id)(ty:typeOf (.builtin id)=pure (.type "method_descriptor"))(hl:(p.endLine==pos.line)=true)
 (hp:w9 C bp k sc ns o q)(he:dS C bp k sc ns e ie)(q1:kD bp q fr wl=some ((ob,put),w1))(q2:ev bp ie fr w1=some (x,w2))(H:Here C G O sc ns env fr wl k A s)
 (h:∀v(aM:aN)(G1:Gh) a κ t i x',v=.ref a->Step C G G1 s aM->bz C G1 w1 aM.heap->cL C G1 O sc ns env fr aM.heap->lG C G1 O env ns fr aM.heap i κ x' a ob put t->
   aM.TypeIs v T/\(∃o',aM.heap.get? a=some o'/\o'.dict=none)/\∀u(b0:aN)(G2:Gh),Step C G1 G2 aM b0->bz C G2 w2 b0.heap->cE C G2 O aM.heap b0.heap u x->aK C.M A (call (.builtin id) [v,u]) (λ_=>Q .next) ee b0):
 aK C.M A (exec (.Expr (.Call (.Attribute o name p) [e] [] pos) pos') env) Q ee s:=by
 refine aa9 (IQ (hb env) hl (by refine eW (mG he.star) ?_;rfl) (cX (hp G O env A s fr wl ob put w1 q1 H) λv aM h'=>CL h' λG1 a κ t i x' e1 x1 W1 P=>?_)) (by unfold interactive;exact eW H.F.fn rfl)
 have F1:=H.F.step x1
 (refine jN (h v aM G1 a κ t i x' e1 x1 W1 F1 P) λhT q2=>?_;obtain⟨o',pZ,ui⟩:=q2;intro hc)
 refine⟨T,id,pa,slot,ty,hT,λb eb=>⟨o',by rw[e1]at eb;cases eb;exact pZ,ui⟩,ot rfl (qh (r7 (dQ (he.v G1 O env A aM fr w1 x w2 q2 (H.step x1 W1)) (λu b0 q3=>dT q3 λG2 x2 W2 R2=>mC ?_) λ_ _ q=>q.elim)))⟩;exact hc u b0 G2 x2 W2 R2
theorem kY{n:Nat}(h:cg n=true):n<=sizeLine:=by exact eW dp<|ak (dN h) (by decide)
theorem Bo{put:OB->List Slot}{vs:Array aB}{n:Nat}{f:Array aB->Array aB}(X:Step C G0 G1 s0 aM)(F1:cL C G1 O sc ns env fr aM.heap)(P:lG C G1 O env ns fr aM.heap i κ x a (.list xs) put t)
 (x2:Step C G1 G2 aM b0)(W2:bz C G2 wl b0.heap)(h4:aM.heap.get? a=some {cls:=.type "list",data:=.seq vs n})(hf:eQ C G1 a)(hF:G1.F a=none)(R:bB C G2 (f vs).toList ys):
 PU C G0 O sc ns env s0 (put (.list ys)) wl {b0 with heap:=b0.heap.update a (o_ f),toks:=b0.toks}:=
 xE (rm (f:=f) (x2.keep _ _ hf h4)) λn' h6=>rz (tk:=b0.toks) (h':=b0.heap.update a (o_ f)) (wl:=wl) (o':=.list ys) X F1 P x2 W2 trivial (eH (cA ..)) ⟨_,h6⟩ ⟨a,rfl,P.hO,x2.free hf h4,x2.Aq hF h4,_,n',h6,R⟩
theorem JI{o:af}{pos:dK}(hb:∀env,attributeBase o "append" env (eval o env)=eval o env)(hl:(p.endLine==pos.line)=true)
 (hp:w9 C bp k sc ns o q)(he:dS C bp k sc ns e ie):jw C bp N k sc ns (.Expr (.Call (.Attribute o "append" p) [e] [] pos) pos') (.append q ie):=λG O env A s fr wl fl cJ bQ q0 H=>
 ob q0 λy q1 q=>f9 q λx w2 q2 q=>ob q λd h1 q=>ob q λxs h2 q=>dU q λhz q=>(OB.xF (P:=λo'=>kD bp _ fr wl=some ((o',y.1.2),y.2)->_) h2 λq1=>(eg (P:=λx=>ev bp ie fr y.2=some (x,w2)->_) h1 λq2=>xp q
  (vJ hb i9 iC PySem.F.type_list_append hl hp he q1 q2 H λv aM G1 a κ t i x' hv x1 W1 F1 P=>by
    subst hv;exact fA (lu P.rep) λh1 h2 h3 h=>gg h λvs n h4 h5=>⟨⟨_,h4,rfl⟩,⟨_,h4,rfl⟩,λu b0 G2 x2 W2 R2=>
     have Xe:=x2.keep _ _ h2 h4
     have hlen:vs.size=xs.length:=bC.symm.trans h5.length
     xd iC ⟨_,Xe,rfl⟩ lU (lF _ _) (jc a vs n u (by exact eW hlen<|kY hz)) ⟨Xe,
      (Bo (f:=λz=>z.push u) (ys:=xs++[d]) x1 F1 P x2 W2 h4 h2 h3 (by exact eW mE<|(h5.mono x2.ext).append (.one R2))).next⟩⟩)) q2) q1
theorem JG{o:af}{pos:dK}(hb:∀env,attributeBase o "extend" env (eval o env)=eval o env)(hl:(p.endLine==pos.line)=true)
 (hp:w9 C bp k sc ns o q)(he:dS C bp k sc ns e ie):jw C bp N k sc ns (.Expr (.Call (.Attribute o "extend" p) [e] [] pos) pos') (.extend q ie):=λG O env A s fr wl fl cJ bQ q0 H=>
 ob q0 λy q1 q=>f9 q λx w2 q2 q=>ob q λds h1 q=>ob q λxs h2 q=>dU q λhz q=>(OB.xF (P:=λo'=>kD bp _ fr wl=some ((o',y.1.2),y.2)->_) h2 λq1=>xp q
  (vJ hb i9 x9 PySem.F.type_list_extend hl hp he q1 q2 H λv aM G1 a κ t i x' hv x1 W1 F1 P=>by
    subst hv;exact fA (lu P.rep) λCD h2 h3 h=>gg h λvs n h4 h5=>⟨⟨_,h4,rfl⟩,⟨_,h4,rfl⟩,λu b0 G2 x2 W2 R2=>
     have Xe:=x2.keep _ _ h2 h4
     have hlen:vs.size=xs.length:=bC.symm.trans h5.length
     listI (P:=λu=>aK C.M A (call _ [_,u]) _ ee b0) W2 R2 (ob h1 λd g1 g2=>eg (P:=λx=>EV.eh x=some ds) g1 g2) λb us m hb0 hb2=>
      have hle:vs.size+us.toArray.size<=sizeLine:=by exact eW hlen<|eW cj<|eW hb2.length<|kY hz
      xd x9 ⟨_,Xe,rfl⟩ PySem.F.entry_list_extend (PySem.F.args_list_extend_2 _ _) (AutoSeq1.list_extend_list_list_0 a vs n b us.toArray m (extend_door hle) (ak (aP _ _) hle)) ⟨Xe,hb0,
       (Bo (f:=λz=>z++us.toArray) (ys:=xs++ds) x1 F1 P x2 W2 h4 h2 h3 (by exact eW qX<|(h5.mono x2.ext).append hb2)).next⟩⟩)) q1
end
section
variable {G0:Gh}
theorem set_list{vs:Array aB}{n:Nat}{j:Int}{t:Tok}{Q:Unit->aN->Prop}(ho:s.heap.get? a=some {cls:=.type "list",data:=.seq vs n})(h0:0<=j)(hf:j<2^62)(hn:j.toNat<vs.size)
 (hQ:∀h' n',cS a s.heap h'->h'.get? a=some {cls:=.type "list",data:=.seq (vs.setIfInBounds j.toNat v) n'}->Q () {s with heap:=h'}):aK C.M A (setItem (.ref a) (.int j t) v) Q E s:=by
 have hl:s.heap.IsList a vs:=⟨_,ho,rfl,n,rfl⟩;unfold setItem
 try with_reducible refine bM ?_
 first|refine ai (ar ?_)|skip
 refine ai (UM hl.typeIs (by decide) ?_);refine ai (p_ (name:=aa "__setitem__") hl.typeIs UO
  (gK UO hl.typeIs entry_list_setitem ?_ (args_list_setitem _ _ _)))
 show aK _ _ (YK (.int j t)>>=_) _ _ s;refine ai (wpAny_listSubscript_int (fitsIndex_of h0 (by lia)) ?_);clear hf
 (refine xE (gn h0) λi q1=>?_;subst q1)
 have hj:i<vs.size:=by simpa using hn
 have WB:vs[i]?=some vs[i]:=mA hj
 show aK _ _ ((seqItemAt a i>>=λr=>pure (r.map (i,·)))>>=_) _ _ s;refine ai (ai (wpAny_seqItemAt ho rfl (ar ?_)));refine eW WB ?_
 show aK _ _ (setSeqItemAt a i v>>=_) _ _ s
 (refine xE (rm (f:=λz=>z.setIfInBounds i v) ho) λn' h6=>?_)
 have fin:=hQ _ n' (cA ..) h6;refine ai (wpAny_setSeqItemAt ho rfl ?_)
 first
  |exact ai (ar (ar ⟨.none,rfl,ar fin⟩))
  |exact ar ⟨.none,rfl,ar fin⟩
theorem map_set{f:Int->Option aB}{n:Nat}{j:Int}{key:aB}{Q:Unit->aN->Prop}(wm:(ik C).is j key=true)(hm:s.heap.MapOf (ik C) a f)(hz:s.heap.DictLe a n)(hn:n<=sizeLine)
 (hQ:∀h',cS a s.heap h'->h'.MapOf (ik C) a (λx=>if x=j then some v else f x)->h'.DictLe a (if(f j).isSome then n else n+1)->Q () {s with heap:=h',toks:=s.toks+1}):
 aK C.M A (dictSet a key v) Q E s:=by
 (refine kP hm ?_;clear hm;intro o es ep ho hc hd q2;refine xA q2 ?_;clear q2;intro hk hf)
 have hes:es.size<=n:=hz _ _ _ ho hd
 have hfj:(f j).isSome=(es.findIdx? λe=>(ik C).is j e.key).isSome:=by
  refine eL (hf j)<|eW (findBy_of_findIdx? ..) ?_;induction hi:es.findIdx? λe=>(ik C).is j e.key using aA with
  |none=>rfl
  |some i=>
   have:=(Array.findIdx?_eq_some_iff_getElem.mp hi).1;simp[this]
 unfold dictSet
 try with_reducible refine bM ?_
 refine ai ((ik C).pyHash wm ?_);unfold dictSetHashed
 try with_reducible refine bM ?_
 refine ai (wpAny_dictFind_of (s:={s with toks:=s.toks+1}) wm ho hd hk ?_);induction hi:es.findIdx? λe=>(ik C).is j e.key using aA with
 |some i=>
  have g:=en (Obj.mapDict λes=>es.modify i λe=>{e with val:=v}) ho (IU (xh hd _));refine ai (xc (ai (wpAny_updateDict (s:={s with toks:=s.toks+1}) ho hd (wpAny_point (hQ _ (cA ..) ⟨_,_,ep,g,
   hc.mapDict _,xh hd _,hk.modify _ _,λx=>?_⟩ ?_)))))
  . exact eW (findBy_modify (ik C).is (ik C).inj es j x v i hi)<|eW (hf ..) rfl
  . refine eW hfj<|eW hi ?_
    intro o' YB YC pZ ui;replace pZ:=g▸pZ;cases pZ;replace ui:=(xh hd _)▸ui;cases ui;exact eW Array.size_modify<|hes
 |none=>
  have g:=en (Obj.mapDictKeys λes=>es.push ⟨(ik C).hash j,key,v⟩) ho (IU (qO hd _));refine ai (xc (wpAny_updateDictKeys (hz:=ak hes hn) (s:={s with toks:=s.toks+1}) ho hd (hQ _ (cA ..) ⟨_,_,ep+1,g,
   hc.mapDictKeys _,qO hd _,hk.push wm _,λx=>?_⟩ ?_)))
  . exact eW (findBy_push (ik C).is es j x _ _ v (KeyKind.is_eq_decide wm) hi)<|eW (hf ..) rfl
  . refine eW hfj<|eW hi ?_
    intro o' YB YC pZ ui;replace pZ:=g▸pZ;cases pZ;replace ui:=(qO hd _)▸ui;cases ui;refine eW (Array.size_push ..) ?_;simp;omega
theorem NA{f:Int->Option aB}{n:Nat}{j:Int}{t:Tok}{Q:Unit->aN->Prop}(hm:s.heap.MapOf (ik C) a f)(hz:s.heap.DictLe a n)(hn:n<=sizeLine)
 (hQ:∀h',cS a s.heap h'->h'.MapOf (ik C) a (λx=>if x=j then some v else f x)->h'.DictLe a (if(f j).isSome then n else n+1)->Q () {s with heap:=h',toks:=s.toks+1}):aK C.M A (setItem (.ref a) (.int j t) v) Q E s:=by
 have wm:(ik C).is j (.int j t)=true:=tP j t
 have hT:=hm.typeIs
 (refine kP hm ?_;clear hm;intro o es ep ho hc hd q3;refine xA q3 ?_;clear q3;intro hk hf)
 have hes:es.size<=n:=hz _ _ _ ho hd;unfold setItem
 try with_reducible refine bM ?_
 refine ai (UM hT (by decide) ?_);refine ai (p_ (name:=aa "__setitem__") hT UP
  (gK UP hT entry_dict_setitem ?_ (args_dict_setitem _ _ _)))
 show aK _ _ (YL "__setitem__" ⟨[.ref a,.int j t,v],[]⟩>>=_) _ _ s;refine ai (wpAny_notOrdered_dict hT ?_)
 show aK _ _ (dictSet a (.int j t) v>>=_) _ _ s;refine ai (map_set wm ⟨o,es,ep,ho,hc,hd,hk,hf⟩ hz hn λh' e1 e2 e3=>ar ⟨.none,rfl,ar (hQ h' e1 e2 e3)⟩)
noncomputable def lk(es:List (Int×FV))(vs:List aB)(k:Int):Option aB:=((es.map (·.1)).zip vs).lookup k
theorem nC{i k:Int}{es:List (Int×FV)}:lk ((i,d)::es) (v::vs) k=if k=i then some v else lk es vs k:=by
 show X0 k ((i,v)::(es.map (·.1)).zip vs)=_;rw[bL];by_cases e:k=i
 . rw[if_pos e,e,beq_self_eq_true]
 . exact eW (if_neg e)<|eW (beq_eq_false_iff_ne.mpr e) rfl
structure Mu(C:Cx)(G:Gh)(v:aB)(j:Int)(d:FV)(es:List (Int×FV))(vs CA:List aB):Prop where
 Si:bB C G CA ((dD es j d).map (·.2))
 lk:∀k,lk (dD es j d) CA k=if k=j then some v else lk es vs k
 len:(dD es j d).length=(if(Mine.lk es vs j).isSome then es.length else es.length+1)
 nd:(es.map (·.1)).Nodup->((dD es j d).map (·.1)).Nodup
 mem:∀k∈(dD es j d).map (·.1),k=j\/k∈es.map (·.1)
theorem NV{j i:Int}{e:FV}{r:List (Int×FV)}{w:aB}(q:i=j)(Rv:Rep C G v d)(r2:bB C G vs (r.map (·.2))):Mu C G v j d ((i,e)::r) (w::vs) (v::vs):=by
 subst q
 have hp:dD ((i,e)::r) i d=(i,d)::r:=if_pos rfl;exact⟨hp▸.cons Rv r2,λk=>by refine eW hp<|eW nC<|eW nC ?_;split<;>rfl,by exact eW hp<|eW nC<|eW (if_pos rfl) rfl,λh=>hp▸h,λk h=>.inr (by replace h:=hp▸h;exact h)⟩
theorem J3{j i:Int}{e:FV}{r:List (Int×FV)}{CA:List aB}{w:aB}(q:¬i=j)(r1:Rep C G w e)(I:Mu C G v j d r vs CA):Mu C G v j d ((i,e)::r) (w::vs) (w::CA):=by
 have hp:dD ((i,e)::r) j d=(i,e)::dD r j d:=if_neg q;refine⟨hp▸.cons r1 I.Si,λk=>?_,?_,λh=>?_,λk h=>?_⟩
 . refine eW hp<|eW nC<|eW nC<|eW (I.lk ..) ?_
   by_cases e:k=i
   . exact eW (if_pos e)<|eW (if_pos e) (if_neg (e▸q)).symm
   . exact eW (if_neg e)<|eW (if_neg e) rfl
 . refine eW hp<|eW nC<|eW (if_neg (d5 q))<|eW u6<|eW I.len ?_;split<;>rfl
 . refine eW hp ?_
   have n:=cp.mp h;exact cp.mpr ⟨λhm=>(I.mem _ hm).elim q n.1,I.nd n.2⟩
 . replace h:=hp▸h
   exact(a6.mp h).elim (λe=>.inr (e▸a7)) λe=>(I.mem k e).imp id λz=>aW _ z
theorem tJ{j:Int}{es:List (Int×FV)}(Rv:Rep C G v d)(R:bB C G vs (es.map (·.2))):∃CA,Mu C G v j d es vs CA:=
 es.rec (motive:=λes=>∀vs,bB C G vs (es.map λp:Int×FV=>p.2)->∃CA,Mu C G v j d es vs CA) (λvs R=>bB.Kn R ⟨[v],.one Rv,λk=>nC,rfl,λ_=>cp.mpr ⟨nofun,.nil⟩,λk h=>.inl (aI.mp h)⟩)
  (λp r ih vs R=>by
    induction p using oz;rename_i i e;exact(show bB C G vs (e::r.map (·.2))from R).rS λw vs r1 r2=>if q:i=j then⟨v::vs,NV q Rv r2⟩else xE (ih vs r2) λCA I=>⟨w::CA,J3 q r1 I⟩) vs R
theorem J4{et:aN}{w3:WL}{put:OB->List Slot}{j:Int}{tk:Tok}(X:Step C G G2 s b0)(F2:cL C G2 O sc ns env fr b0.heap)(P:lG C G2 O env ns fr b0.heap i κ x a (.list xs) put t)
 (x3:Step C G2 G' b0 et)(W3:bz C G' w3 et.heap)(R:Rep C G' v d)(h0:0<=j)(hn:j.toNat<xs.length)(hf:j<2^62):
 aK C.M A (setItem (.ref a) (.int j tk) v) (λ_ s'=>PU C G O sc ns env s (put (.list (xs.set j.toNat d))) w3 s') ee et:=fA (lu P.rep) λh1 h2 h3 h=>gg h λvs n h4 h5=>
 set_list (x3.keep _ _ h2 h4) h0 hf ((bC.symm.trans h5.length).symm▸hn) λh' n' sb ho=>
  rz (tk:=et.toks) (o':=.list (xs.set j.toNat d)) X F2 P x3 W3 trivial (eH sb) ⟨_,ho⟩ ⟨a,rfl,P.hO,x3.free h2 h4,x3.Aq h3 h4,_,n',ho,by
   exact eW yc<|(h5.mono x3.ext).set _ R⟩
theorem Bc{et:aN}{w3:WL}{es:List (Int×FV)}{put:OB->List Slot}{j:Int}{tk:Tok}(X:Step C G G2 s b0)(F2:cL C G2 O sc ns env fr b0.heap)(P:lG C G2 O env ns fr b0.heap i κ x a (.dict es) put t)
 (x3:Step C G2 G' b0 et)(W3:bz C G' w3 et.heap)(R:Rep C G' v d)(hz:cg es.length=true):
 aK C.M A (setItem (.ref a) (.int j tk) v) (λ_ s'=>PU C G O sc ns env s (put (.dict (dD es j d))) w3 s') ee et:=kI (Kf P.rep) λh1 h2 h3 hs h=>gg h λf vs hm h=>fA h λh5(h6:∀k,f k=lk es vs k) h7 h8=>
 xE (fZ hm) λo ho=>NA (lz (x3.at_ h2) hm) (lh (x3.at_ h2) ho h7) (kY hz) λh' sb UE Yu=>xE (tJ (j:=j) R (h5.mono x3.ext)) λCA I=>
  rz (o':=.dict (dD es j d)) X F2 P x3 W3 trivial (eH sb) (fZ UE) ⟨a,rfl,P.hO,x3.free h2 ho,x3.Aq h3 ho,hs,_,CA,UE,I.Si,λk=>by
   show _=lk _ _ _;exact eW (I.lk ..)<|eL (h6 ..) rfl,by exact eW I.len<|eL (h6 ..)<|Yu,I.nd h8⟩
theorem Fw{a b:af}{l:Nat}:swapsWith e (some (.Subscript a b p)) l env=pure false:=by
 induction e using bF<;>exact@rfl (Sem Bool) (pure false)
theorem J2{j:Int}{tk:Tok}(X:Step C G G' s s')(F:cL C G' O sc ns env fr s'.heap)(W:bz C G' (some xs) s'.heap)(R:Rep C G' v d)(Rw:Rep C G' u .well)(h0:0<=j)(hn:j.toNat<xs.length)(hf:j<2^62):
 aK C.M A (setItem u (.int j tk) v) (λ_ qo=>PU C G O sc ns env s fr (some (xs.set j.toNat d)) qo) ee s':=by
 cases Rw with
 |well ha=>
  rename_i a
  have W':=W.well;replace W':=ha▸W'
  (refine nX W' ?_;clear W';intro n1 vs n h4 h5)
  have hlen:vs.size=xs.length:=by have:=h5.length;simpa using this
  refine set_list h4 h0 hf (by lia) λh' n' sb ho=>?_
  have nf:∀{b:aO},eQ C G' b->b≠a:=λf q=>f.2 (q▸ha)
  have no:O a=none:=by
   induction q:O a using aA with
   |none=>rfl
   |some r=>exact absurd rfl (nf (F.iK a r q).2.1)
  have k:=eH sb;refine⟨G',O,⟨X.ext,λb o f _ e=>?_,λb o e=>?_,λb o e=>(X.lx b o e).imp id .inl,X.kB,λ_ _ _ h=>h,λ_ _ _ h=>h,λ_ _ h=>h,X.gens,X.os⟩,⟨λb o e=>?_,W.base,λq hq=>?_,?_⟩,F.loose no (λj y hy hk hc=>?_) k⟩
  . exact k b (nf (X.free f e)) _ (X.keep b o f e)
  . (refine xE (X.alive b o e) λo' e'=>?_)
    by_cases q:b=a
    . subst q;exact⟨_,ho⟩
    . exact⟨o',k b q _ e'⟩
  . exact k b (λq=>by replace e:=n1▸(q▸e);exact nn e) _ (W.sub b o e)
  . (refine qn (W.tabs q hq) λt1 t2 ps t3 r=>?_)
    exact⟨t1,t2,ps,k _ (λe=>t2 (by exact eW e<|ha)) _ t3,r⟩
  . refine eW ha ?_
    refine⟨n1,_,n',ho,?_⟩;exact eW yc<|h5.set _ R
  . have hl:j<fr.length:=by
     refine eW F.len ?_;induction q:decide (j<ns.length)using ax with
     |true=>exact of_decide_eq_true q
     |false=>replace hy:=(ba (bu (of_decide_eq_false q)))▸hy;exact nn hy
    (refine fo (F.p9 j y _ hy (aV hl) hk) λ_ c ov q1 _ _ _ q5 _=>?_)
    replace q1:=hc▸q1;cases q1;exact nf q5 rfl
theorem RZ{pos:dK}{ie:af}{b ia:IE}(hx:ns[i]?=some x)(hd:(x==("__debug__":bA))=false)(hc:(x==("__classdict__":bA))=false)(hb:dS C bp k sc ns ie b)(ha:dS C bp k sc ns e ia):
 jw C bp N k sc ns (.Assign [.Subscript (.Name x px) ie p] e pos) (.fW (.v i) b ia):=λG O env A s fr wl fl cJ bQ q H=>
 f9 q λy w1 q1 q=>ob q λd h1 q=>ob q λsl hs q=>f9 q λz w2 q3 q=>ob q λj h2 q=>Mp (ha.run H q1 λv aM G1 x1 H1 R1=>by
  replace R1:Rep C G1 v d:=eg (P:=λy=>cE C G1 O s.heap aM.heap v y->_) h1 (λR=>R) R1
  have own:∀{t:OT}{o:OB}{Q:Unit->aN->Prop},sl.own?=some t->t.o?=some o->(∀a κ i' x' t' G2 b0(P:lG C G2 O env ns fr b0.heap i' κ x' a o (λo'=>fr.set i (.own (.ob o'))) t')(x2:Step C G1 G2 aM b0)(H2:Here C G2 O sc ns env fr w1 k A b0) u et G3(x3:Step C G2 G3 b0 et)(H3:Here C G3 O sc ns env fr w2 k A et) t,
   aK C.M A (setItem (.ref a) (.int j t) v) Q ee et)->aK C.M A (eval (.Name x px) env) (λo s=>aK C.M A (eval ie env) (λi s=>aK C.M A (setItem o i v) Q ee s) ee s) ee aM:=λg1 g2 kk=>
   cX (ZA (bp:=bp) hx hd hc G1 O env A aM fr w1 _ _ w1 (bs (bs hs g1) (ms g2)) H1) λov b0 r=>Az r λG2 a κ r=>Az r λt' i' x' r=>fA r λhv x2 W2 P=>by
    subst hv
    have H2:=H1.step x2 W2;exact hb.run H2 q3 λiv et G3 x3 H3 R3=>iA R3 h2 λt=>kk a κ i' x' t' G2 b0 P x2 H2 iv et G3 x3 H3 t
  exact oe q (λ_ q=>ob q λt g1 q=>ob q λo g2 q=>oe q
   (λ_ q=>ob q λes g3 q=>dU q λhz q=>own g1 g2 λa κ i' x' t' G2 b0 P x2 H2 u et G3 x3 H3 t=>xp q (OB.LG (P:=λo=>lG C G2 O env ns fr b0.heap i' κ x' a o _ t'->_) g3
     (λP=>cX (Bc (x1.trans x2) H2.F P x3 H3.W (Rep.mono (x2.ext.trans x3.ext) R1) hz) λ_ s' h=>h.next) P))
   λxs g3 q=>dU q λhk q=>own g1 g2 λa κ i' x' t' G2 b0 P x2 H2 u et G3 x3 H3 t=>xp q (OB.xF (P:=λo=>lG C G2 O env ns fr b0.heap i' κ x' a o _ t'->_) g3
    (λP=>cX (J4 (x1.trans x2) H2.F P x3 H3.W (Rep.mono (x2.ext.trans x3.ext) R1) hk.1 hk.2.1 hk.2.2) λ_ s' h=>h.next) P))
   λw g1 q=>dU q λhw q=>ob q λxs g2 q=>dU q λhk q=>xp q (Slot.Je (P:=λsl=>fr[i]?=some sl->_) g1 (λhs=>bS (zB H1.F hx hs nofun) λu n S=>bS S λu' e' Rw=>by
    cases e';refine qN (mK H1.F ⟨i,hx⟩ hc n ?_) hd;exact hb.run H1 q3 λiv b0 G2 x2 H2 R2=>iA R2 h2 λt=>cX (J2 (x1.trans x2) H2.F (g2▸H2.W) (Rep.mono x2.ext R1) (Rep.mono x2.ext (FV.Jc (P:=λw=>Rep C G1 u w->Rep C G1 u .well) hw (λR=>R) Rw)) hk.1 hk.2.1 hk.2.2) λ_ s' h=>h.next) hs)) Fw
theorem R0{o:af}{pos:dK}{ie:af}{f:Nat}{b ia:IE}(hp:w9 C bp k sc ns o (.fld i f))(hb:dS C bp k sc ns ie b)(ha:dS C bp k sc ns e ia):
 jw C bp N k sc ns (.Assign [.Subscript o ie p] e pos) (.fW (.fld i f) b ia):=λG O env A s fr wl fl cJ bQ q H=>
 f9 q λy w1 q1 q=>ob q λd h1 q=>f9 q λop w2 q3 q=>f9 q λz w3 q4 q=>ob q λj h2 q=>ob q λes g3 q=>dU q λhz q=>Mp (ha.run H q1 λv aM G1 x1 H1 R1=>by
  replace R1:Rep C G1 v d:=eg (P:=λy=>cE C G1 O s.heap aM.heap v y->_) h1 (λR=>R) R1;exact cX (hp G1 O env A aM fr w1 op.1 op.2 w2 q3 H1) λov b0 r=>Az r λG2 a κ r=>Az r λt i' x' r=>fA r λhv x2 W2 P=>by
   subst hv
   have H2:=H1.step x2 W2;exact hb.run H2 q4 λiv et G3 x3 H3 R3=>iA R3 h2 λtk=>xp q (OB.LG (P:=λo=>lG C G2 O env ns fr b0.heap i' κ x' a o op.2 t->_) g3
    (λP=>cX (Bc (x1.trans x2) H2.F P x3 H3.W (Rep.mono (x2.ext.trans x3.ext) R1) hz) λ_ s' h=>h.next) P)) Fw
end
section
variable {G0:Gh}
theorem DH{es:List b7}(hk:∀e∈es,∃t j,e.key=.str (attrName j) t/\j<15):es.any (·.refKey)=false:=by
 refine MA.mpr λe he=>?_
 (refine gg (hk e he) λt j hk _=>?_)
 unfold EM;refine eW hk ?_;simp
theorem N6{x dx:aO}{es:List b7}{n:Nat}{tk0:Tok}{R:Except aB Flow->aN->Prop}(X:C.K.In s.heap)(hx:s.heap.get? x=some (instObj c dx))(D:s.heap.get? dx=some (dictOf es n))
 (hp:plainOver C.K c=true)(ht:takerIn C.K c name=some none)(hh:hasDictIn C.K c=true)(nr:es.any (·.refKey)=false)(hz:es.length<900)
 (h:∀h' O7 tk n',cS dx s.heap h'->h'.get? dx=some (dictOf (putL name O7 (.str name tk) v es) n')->R (.ok (.ret .none)) {s with heap:=h',toks:=s.toks+1}):
 codeAny C.M A (.call (.builtin "object.__setattr__") ⟨[.ref x,.str name tk0,v],[]⟩) R s:=by
 have I:InstAt s.heap x (instObj c dx) c (some (dictOf es n)):=⟨hx,rfl,rfl,D⟩;refine osa_open X I hp ht λb=>?_
 (refine bS (any_some hh) λcd hc ui=>?_)
 refine ai (ar (ai (ai (aa6 hx (ai ((looks_clsIn X hc).here ?_))))));refine eW ui ?_;refine ar (a:=some dx) (ai (ar (ai ?_)));unfold nsSet;refine ai (ai (eG (ar (ai (wpAny_mkText (ai (aa6 D ?_)))))));dsimp only
 have c0:(!es.toArray.any (·.key.isStr name)&&es.toArray.any (·.refKey))=false:=by
  have:es.toArray.any (·.refKey)=false:=by simpa using nr
  exact eW this<|eW (jL ..) rfl
 refine eW (aRefKeyMayBeTheName_at ..)<|eW c0 ?_
 have g:=en (Obj.putName name (xt C.w.params name) (.str name s.toks) v) D (by exact eW (putName_dict ..) rfl);rw[putName_dict]at g
 have hlen:(putL name (xt C.w.params name) (.str name s.toks) v es).length<=1000:=by
  have:∀l:List b7,(putL name (xt C.w.params name) (.str name s.toks) v l).length<=l.length+1:=λl=>by
   induction l with
   |nil=>simp[putL]
   |cons e r ih=>unfold putL;split<;>simp<;>omega
  have:=this es;lia
 refine wpAny_updatePart D ?_;refine ai (wpAny_lookBehind g (pastItsLine_dict (by refine eW cj<|eW dp ?_;lia)) ?_);exact ar (h _ _ _ _ (cA ..) g)
theorem Jz{x dx:aO}{es:List b7}{n:Nat}{Q:Unit->aN->Prop}(X:C.K.In s.heap)(hx:s.heap.get? x=some (instObj c dx))(D:s.heap.get? dx=some (dictOf es n))
 (hs:findIn C.K (.ref c) "__setattr__"=some (some (.builtin "object.__setattr__")))(hp:plainOver C.K c=true)(ht:takerIn C.K c name=some none)(hh:hasDictIn C.K c=true)(nr:es.any (·.refKey)=false)(hz:es.length<900)
 (h:∀h' O7 tk n',cS dx s.heap h'->h'.get? dx=some (dictOf (putL name O7 (.str name tk) v es) n')->Q () {s with heap:=h',toks:=s.toks+2}):
 aK C.M A (setAttr (.ref x) name v) Q E s:=by
 have I:InstAt s.heap x (instObj c dx) c (some (dictOf es n)):=⟨hx,rfl,rfl,D⟩;exact set_plain X I hs (N6 (s:={s with toks:=s.toks+1}) X hx D hp ht hh nr hz λh' O7 tk n' e1 e2=>h h' O7 tk n' e1 e2)
theorem gb.length{es:List b7}(y:gb C G O h ρ es fs):es.length=fs.length:=y.ind rfl λ_ _ _ _ _ _ _ _ ih=>congrArg (·+1) ih
theorem gb.put{x:OF}{O7:Int}{tk:Tok}{es:List b7}(hj:j<15)(R:f6 C G O h (ρ (j+2)) v x)(y:gb C G O h ρ es fs):gb C G O h ρ (putL (attrName j) O7 (.str (attrName j) tk) v es) (putField fs j x):=
 y.ind (P:=λes fs=>gb C G O h ρ (putL (attrName j) O7 (.str (attrName j) tk) v es) (putField fs j x)) ⟨⟨tk,rfl⟩,hj,R,trivial⟩ λe es p fs q hk y1 y2 ih=>by
  induction p using oz;rename_i k z;refine xE q λt ht=>?_;unfold putL putField;by_cases e0:k=j
  . refine eW (if_pos e0) ?_
    subst e0;exact eW (if_pos (key_is ht hk hk (beq_self_eq_true k))) ⟨⟨t,ht⟩,hk,R,y2⟩
  . exact eW (if_neg e0)<|eW (if_neg λz=>ff ((key_is ht hk hj (beq_eq_false_iff_ne.mpr e0)).symm.trans z)) ⟨⟨t,ht⟩,hk,y1,ih⟩
theorem xB{x:OF}(nd:(fs.map (·.1)).Nodup):((putField fs j x).map (·.1)).Nodup/\∀k∈(putField fs j x).map (·.1),k=j\/k∈fs.map (·.1):=by
 induction fs using ub with
 |nil=>exact⟨cp.mpr ⟨a8,eC⟩,λk h=>.inl (aI.mp h)⟩
 |cons p fs ih=>
  induction p using oz;rename_i k z;unfold putField;by_cases e0:k=j
  . exact eW (if_pos e0)<|eL e0<|⟨nd,λ_ h=>.inr h⟩
  . refine eW (if_neg e0) ?_
    refine eW bT ?_;rw[bT]at nd
    (refine xA (cp.mp nd) λn1 n2=>?_)
    (refine xA (ih n2) λh1 h2=>?_)
    refine⟨cp.mpr ⟨λhm=>?_,h1⟩,λi hi=>?_⟩
    . rcases h2 _ hm with e|e
      . exact e0 e
      . exact n1 e
    . rcases a6.mp hi with e|e
      . exact .inr (e▸a7)
      . exact(h2 i e).imp id λz=>aW _ z
theorem Pc{d:aO}(X:bX C G G1 O O' s aM)(h:O' d=some (.own i κ)):s.heap.get? d=none\/qk O d:=match q:s.heap.get? d with
 |none=>.inl rfl
 |some o=>.inr (Classical.byContradiction λhh=>X.own d o q hh ⟨_,h,nofun⟩)
theorem yW{y:OF}(B:Base C)(X:bX C G G1 O O' s aM)(W1:bz C G1 wl aM.heap)(F1:cL C G1 O' sc ns env fr aM.heap)(hx:ns[i]?=some x)(hd:(x==("__debug__":bA))=false)
 (hc:(x==("__classdict__":bA))=false)(hs:fr[i]?=some (.own (.inst c fs)))(R:f6 C G1 O' aM.heap (some (.own i (j+2))) v y)(hj:j<15)(hz:fs.length<900):
 aK C.M A (eval (.Name x px) env) (λov b0=>aK C.M A (setAttr ov (attrName j) v) (λ_ s'=>PU C G O sc ns env s (fr.set i (.own (.inst c (putField fs j y)))) wl s') ee b0) ee aM:=
 bS (zB F1 hx hs nofun) λw n S=>bS S λw' e T=>by
  cases e;refine qN (mK F1 ⟨i,hx⟩ hc n ?_) hd
  have HQ:=T.1;refine m8 T.2 λxa d i3 m hv R'=>iQ R' λhO lC hF eo uP R'=>iQ R' λPb QV BN ed q nd=>?_;subst hv
  have U1:=F1.iK _ _ uP;refine xA (B.LM c HQ) λc1 c2=>?_;refine Jz (QF B W1) eo ed c1 c2 (B.Gd c j HQ hj) (B.wM c HQ).2.2 (DH (tT q)) (q.length▸hz) λh' O7 tk n' sb e'=>?_
  have k:=eH sb
  have U:Upd C G1 O' aM.heap d G1 h':=⟨.refl G1,λb r e=>⟨(F1.iK b r e).1,(F1.iK b r e).2.1⟩,λb r e nb=>k b nb⟩
  have ne:∀z,O' d≠some (.own i (z+2)):=λz e=>absurd (Role.own.inj (ag (uP.symm.trans e))).2 (by omega);exact⟨G1,O',X.Kq (a:=d) (Pc X uP) k ⟨_,e'⟩,W1.loose U1.1 U1.2.1 k,F1.mut hx hs uP k ⟨_,e'⟩ n ⟨HQ,xa,d,_,n',rfl,hO,lC,hF,k _ (d5 BN) _ eo,uP,Pb,QV,BN,e',gb.put hj (f6.upd U (ne j) R) (q.upd U λk _=>ne k),(xB nd).1⟩⟩
theorem Kl(hj:j<15)(e:j+2=n3):False:=by unfold n3 at e;lia
theorem Km{a:af}{b:bA}{l:Nat}:swapsWith e (some (.Attribute a b p)) l env=pure false:=by
 induction e using bF<;>exact@rfl (Sem Bool) (pure false)
theorem G7{pos:dK}{a:IE}(hx:ns[i]?=some x)(hd:(x==("__debug__":bA))=false)(hc:(x==("__classdict__":bA))=false)(hy:gC[j]?=some y)(hj:j<15)(ha:dS C bp k sc ns e a):
 jw C bp N k sc ns (.Assign [.Attribute (.Name x px) y p] e pos) (.setAttr i j a):=λG O env A s fr wl fl cJ bQ q H=>
 f9 q λz w1 q1 q=>ob q λt h1 q=>ob q λcf h2 q=>dU q λhz q=>MM q λf h3=>by
  refine eW (Gn hy) ?_;refine plainObj_wpAny_Assign_Attribute (ha.run H q1 λv aM G1 x1 H1 R1=>?_) Km
  have hs:fr[i]?=some (.own (.inst cf.1 cf.2)):=ob h1 λsl g1 g2=>(Slot.vw (P:=λsl=>fr[i]?=some sl->_) g2 λg1=>(OT.rO (P:=λt=>fr[i]?=some (.own t)->_) h2 λg=>g) g1) g1;induction z using EV.casesOn with
  |bor t=>exact nn h3
  |fv d=>
   have e:_=f:=ag h3;subst e;exact cX (yW H.base x1.o H1.W H1.F hx hd hc hs (y:=.fv d) R1 hj hz) λov b0 h=>cX h λ_ s' h=>h.next
  |own t=>
   (refine bS (c8.mp h3) λo h4 q1=>?_;subst q1)
   refine bS (Fy R1) λbq m y=>?_
   have m2:nV C G1 s.heap aM.heap 0 (λa=>(bq a).map λ_=>.own 0 (j+2)):=λa r e=>by
    (refine bS (c8.mp e) λr' e1 q2=>?_;subst q2)
    exact jN (m a r' e1) λq1 _ q3=>⟨q1,⟨0,_,rfl,aT _,Kl hj⟩,q3⟩
   exact cX (yW H.base (rr (is:=[i]) x1 m2) H1.W (H.F.zD x1 m2) hx hd hc hs (y:=.ob o) (dI.relabel (λa e=>by unfold oq;dsimp only;exact eW e rfl) (OT.zw (P:=λt=>dM C G1 bq aM.heap (λk=>some (.own 0 k)) v t->dI C G1 bq aM.heap (some (.own 0 0)) v o) h4 (λy=>y) y)) hj hz) λov b0 h=>cX h λ_ s' h=>h.next
theorem Qv{p1 p2 p3:dK}(hx:ns[i]?=some x)(hd:(x==("__debug__":bA))=false)(hc:(x==("__classdict__":bA))=false)(hl:(p2.endLine==p3.line)=true)
 (hs:fr[i]?=some (.own (.ob (.list xs))))(hg:xs.getLast?=some d)(hz:cg xs.length=true)(H:Here C G O sc ns env fr wl k A s)
 (h:∀v G1 s',bX C G G1 O O s s'->bz C G1 wl s'.heap->cL C G1 O sc ns env (fr.set i (.own (.ob (.list xs.dropLast)))) s'.heap->Rep C G1 v d->Q v s'):
 aK C.M A (eval (.Call (.Attribute (.Name x p1) "pop" p2) [] [] p3) env) Q ee s:=by
 refine wpAny_Call_method0_late rfl hl (cX (ZA (bp:=λ_ _ _=>none) hx hd hc G O env A s fr wl (.list xs) (λo'=>fr.set i (.own (.ob o'))) wl (bs (bs hs rfl) rfl) H) λov aM r=>Az r λG1 a κ r=>Az r λt i' x' r=>fA r λhv x1 W1 P=>?_);subst hv;refine fA (lu P.rep) λh1 h2 h3 h'=>gg h' λvs n h4 h5=>?_
 have F1:=H.F.step x1
 have hlen:vs.size=xs.length:=by have:=h5.length;simpa using this
 refine⟨_,_,i9,Au,PySem.F.type_list_pop,⟨_,h4,rfl⟩,(λb eb=>by cases eb;exact⟨_,h4,rfl⟩),ot rfl (PySem.evalArgs_none ?_)⟩;rw[Aj]at hg;refine bS (h5.get hg) λy g1 R=>?_
 have g2:vs[vs.size-1]?=some y:=by refine eW hlen ?_;simpa using g1
 have e1:vs.toList=vs.toList.dropLast++[y]:=by
  have:vs.toList.getLast?=some y:=by refine eW Aj<|eW bC ?_;simpa using g2
  (refine xE (List.getLast?_eq_some_iff.mp this) λys e=>?_)
  refine eW e ?_;simp
 have e2:(vs.eraseIdxIfInBounds (vs.size-1)).toList=vs.toList.dropLast:=by
  have e3:vs=(vs.toList.dropLast++[y]).toArray:=by exact eL e1 rfl
  have e4:vs.size-1=vs.toList.dropLast.length:=by exact eW List.length_dropLast<|eW bC rfl
  refine eW e4 ?_
  have:=kl_erase vs.toList.dropLast [] y;rw[<-e3]at this;exact eW this<|eW (cC ..) rfl
 refine xE (rm (f:=λz=>z.eraseIdxIfInBounds (vs.size-1)) h4) λn' h6=>jN (yr (tk:=aM.toks) (o':=.list xs.dropLast) x1 F1 P (.refl C G1 aM) W1 trivial (eH (cA aM.heap a (o_ λz=>z.eraseIdxIfInBounds (vs.size-1)))) ⟨_,h6⟩ ⟨a,rfl,P.hO,h2,h3,_,n',h6,by refine eW e2 ?_;exact h5.dropLast⟩) λm1 m2 m3=>?_;exact xd Au ⟨_,h4,rfl⟩ PySem.F.entry_list_pop (PySem.F.args_list_pop_1 _) (UQ a vs n y g2 (by exact eW hlen<|kY hz)) ⟨h4,h _ G1 _ m1 m2 m3 R⟩
theorem s_pop{t:af}{p1 p2 p3 pos:dK}{single:Bool}(ht:cY ns t is=true)(hsg:single=(is.length==1))(hx:ns[i]?=some x)(hd:(x==("__debug__":bA))=false)(hc:(x==("__classdict__":bA))=false)
 (hl:(p2.endLine==p3.line)=true):jw C bp N k sc ns (.Assign [t] (.Call (.Attribute (.Name x p1) "pop" p2) [] [] p3) pos) (.pop is single i):=λG O env A s fr wl fl cJ bQ q H=>
 ob q λxs h1 q=>ob q λd hg q=>dU q λhz q=>MM q λsQ q1=>by
  have hs:fr[i]?=some (.own (.ob (.list xs))):=ob h1 λt h1 h2=>ob h1 λsl g1 g2=>(Slot.vw (P:=λsl=>fr[i]?=some sl->_) g2 λg1=>ob h2 λo h2 h3=>(OT.zw (P:=λt=>fr[i]?=some (.own t)->_) h2 λg=>(OB.xF (P:=λo=>fr[i]?=some (.own (.ob o))->_) h3 λg=>g) g) g1) g1
  have hb:c6 (fr.set i (.own (.ob (.list xs.dropLast)))) is d=some sQ:=by
   subst hsg;induction is using bP with
   |nil=>exact q1
   |cons j r=>induction r using bP with
    |nil=>exact q1
    |cons j' r=>exact q1
  have fin:∀v G1 s',bX C G G1 O O s s'->bz C G1 wl s'.heap->cL C G1 O sc ns env (fr.set i (.own (.ob (.list xs.dropLast)))) s'.heap->Rep C G1 v d->aK C.M A (assign t env v) (λ_ qo=>PS C G O sc ns env s .next sQ wl .next qo) ee s':=λv G1 s' X W F R=>
   cX (Gm H.room.handled X W F R ht hb) λ_ qo h=>h.next
  clear q1
  revert ht fin hb
  intro ht;refine ve ht (λy p j hy hb fin=>?_) λes n p ht hb fin=>?_
  . refine xZ (Qv hx hd hc hl hs hg hz H λv G1 s' X W F R=>?_) (vg rfl)
    exact iZ X W F hy hb rfl ⟨v,rfl,R⟩ λs' X' W' F' _=>PU.next ⟨G1,O,X',W',F'⟩
  . exact Mt (Qv hx hd hc hl hs hg hz H λv G1 s' X W F R=>fin v G1 s' X W F R) rfl rfl
end
section
variable {G0:Gh}
theorem Vd{pos:dK}{a:IE}(ha:dS C bp k sc ns e a)(hc:qE e=false):jw C bp N k sc ns (.Expr e pos) (.run a):=λG O env A s fr wl fl cJ bQ q H=>f9 q λy w1 q1 q=>MM q λd h1=>
 aa9 (ha.run H q1 λv aM G1 x1 H1 R1=>⟨G1,O,x1.o,H1.W,H1.F,trivial⟩) (by unfold interactive;exact eW H.F.fn rfl) (vg hc)
theorem dI.ghost{o:OB}(x:Ext G G')(d:∀a,O a=r->G'.F a=none/\eQ C G' a)(y:dI C G O h r v o):dI C G' O h r v o:=by
 (refine m9 y ?_;clear y;intro a hv hO lC hF hc)
 (refine xA (d a hO) λd1 d2=>?_)
 induction o using OB.casesOn with
 |list xs=>(refine gg hc ?_;clear hc;intro vs n e q);exact⟨a,hv,hO,d2,d1,vs,n,e,q.mono x⟩
 |dict es=>
  (refine m_ hc ?_;clear hc;intro hs f vs e q1 q1;refine jN q1 ?_;clear q1;intro q2 q3 q4)
  exact⟨a,hv,hO,d2,d1,hs,f,vs,e,q1.mono x,q2,q3,q4⟩
 |set xs=>exact⟨a,hv,hO,d2,d1,hc⟩
theorem gw.ghost(x:Ext G G')(d:∀a k,O a=ρ k->G'.F a=none/\eQ C G' a)(y:gw C G O h ρ j vs iG):gw C G' O h ρ j vs iG:=y.ind (λ_=>trivial) λj _ _ _ _ y _ ih=>⟨y.ghost x λa e=>d a j e,ih⟩
theorem f6.ghost{o:OF}(x:Ext G G')(d:∀a,O a=r->G'.F a=none/\eQ C G' a)(y:f6 C G O h r v o):f6 C G' O h r v o:=o.casesOn (motive:=λo=>f6 C G O h r v o->f6 C G' O h r v o) (λ_ y=>Rep.mono x y) (λ_ y=>dI.ghost x d y) y
theorem gb.ghost(x:Ext G G')(d:∀a k,O a=ρ k->G'.F a=none/\eQ C G' a){es:List b7}(y:gb C G O h ρ es fs):gb C G' O h ρ es fs:=y.ind trivial λ_ _ _ _ a b c _ ih=>⟨a,b,c.ghost x λa e=>d a _ e,ih⟩
theorem dM.ghost(x:Ext G G')(d:∀a k,O a=ρ k->G'.F a=none/\eQ C G' a)(y:dM C G O h ρ v t):dM C G' O h ρ v t:=by
 induction t using OT.casesOn with
 |ob o=>exact dI.ghost x (λa e=>d a 0 e) y
 |gu iG=>
  (refine fS y ?_;clear y;intro a vs n hv hO lC hF e q)
  exact⟨a,vs,n,hv,hO,(d _ _ hO).2,(d _ _ hO).1,e,q.ghost x d⟩
 |inst c fs=>
  (refine Us y ?_;clear y;intro hc a q2;refine fS q2 ?_;clear q2;intro dd i3 n hv hO lC hF e q3;refine iQ q3 ?_;clear q3;intro uP Pb QV BN ed q4;refine xA q4 ?_;clear q4;intro q hn)
  exact⟨hc,a,dd,i3,n,hv,hO,(d _ _ hO).2,(d _ _ hO).1,e,uP,(d _ _ uP).2,(d _ _ uP).1,BN,ed,q.ghost x d,hn⟩
theorem cV.ghost(x:Ext G G')(q:∀a r,O a=some r->(r=.ki\/∃k,r=.own i k)->O' a=some r/\G'.F a=none/\eQ C G' a)(hl:∀a r,O' a=some r->O a=some r)(y:cV C G O h i sl ov):cV C G' O' h i sl ov:=by
 have y':=y.move (O':=O') (h':=h) λa r e hr=>⟨(q a r e hr).1,λ_ e=>e⟩;induction sl using Slot.casesOn with
 |unset=>exact y'
 |val d=>(refine bS y' ?_;clear y';intro v e p);exact⟨v,e,p.mono x⟩
 |ro d=>(refine bS y' ?_;clear y';intro v e p);exact⟨v,e,p.mono x⟩
 |own t=>(refine bS y' ?_;clear y';intro v e p);exact⟨v,e,p.ghost x λa k e=>(q a _ (hl _ _ e) (.inr ⟨k,rfl⟩)).2⟩
 |bor t=>(refine bS y' ?_;clear y';intro v e p);exact⟨v,e,p.ghost x λa k e=>(q a _ (hl _ _ e) (.inl rfl)).2⟩
noncomputable def frozen(O:aO->Option Role)(P:aO->Prop)[DecidablePred P](a:aO):Option Role:=if P a then none else O a
theorem lg{P:aO->Prop}[DecidablePred P]{b:aO}{r:Role}(e:frozen O P b=some r):O b=some r/\¬P b:=by
 unfold frozen at e;split at e
 . exact nn e
 . rename_i hn;exact⟨e,hn⟩
theorem d7{P:aO->Prop}[DecidablePred P]{b:aO}(q:¬P b):(G.with h P).F b=G.F b:=by
 unfold Gh.with;simp only[q,if_false]
theorem rP{P:aO->Prop}[DecidablePred P](D:I1 C G O h)(hP:∀a,P a->∃r,O a=some r/\r≠.ki):Ext G (G.with h P):=
 ⟨λa o e=>by
   by_cases q:P a
   . (refine bS (hP a q) λr h1 _=>?_)
     rw[(D a r h1).1]at e;exact nn e
   . exact eW (d7 q)<|e,λ_ e=>e⟩
theorem TA{P:aO->Prop}[DecidablePred P](W:bz C G wl s.heap)(D:I1 C G O s.heap)(hP:∀a,P a->∃r,O a=some r/\r≠.ki):
 bz C (G.with s.heap P) wl s.heap/\bX C G (G.with s.heap P) O (frozen O P) s s:=by
 have x:=rP D hP;refine⟨⟨λa o e=>?_,λa o e=>x.f _ _ (W.base a o e),λq hq=>?_,?_⟩,⟨x,λ_ _ _ _ e=>e,λ_ o e=>⟨o,e⟩,λa o e=>?_,λ_ e=>.inl e,λa o e hn hh=>?_,λa o e hn=>?_,λa i h=>(lg h).1,rfl,rfl⟩⟩
 . by_cases q:P a
   . rw[fT q]at e;exact e
   . rw[d7 q]at e;exact W.sub a o e
 . (refine vb (W.tabs q hq) λh1 h2 ps h3 h4 h5=>?_)
   refine⟨?_,h2,ps,h3,h4,λpos cv e=>(h5 pos cv e).mono x.f⟩;rw[d7 λhp=>?_]
   . exact h1
   . (refine bS (hP _ hp) λr h1 _=>?_)
     exact(D _ r h1).2.1.1 q hq rfl
 . have W':=W.well
   show gI C (G.with s.heap P) s.heap G.aw wl;induction hw:G.aw using aA with
   |none=>rw[hw]at W';induction wl using aA<;>first|exact W'.elim|exact trivial
   |some b=>
    rw[hw]at W';induction wl using aA with
    |none=>exact W'.elim
    |some ds=>
     (refine nX W' ?_;clear W';intro h1 vs n h2 r)
     refine⟨?_,vs,n,h2,r.mono x⟩;rw[d7 λhp=>?_]
     . exact h1
     . (refine bS (hP _ hp) λr h1 _=>?_)
       exact(D _ r h1).2.1.2 hw
 . by_cases q:P a
   . exact .inr (.inr (hP a q))
   . rw[d7 q]at e;exact .inl e
 . (refine bS hh ?_;clear hh;intro r h1 h2)
   exact hn ⟨r,(lg h1).1,h2⟩
 . unfold frozen
   split
   . rfl
   . exact hn
theorem vP{f:Int->Option aB}{o:jX}(e:h.get? a=some o)(x:h.MapOf (ik C) a f)(e':h'.get? a=some o):h'.MapOf (ik C) a f:=lz (λo' q=>by rw[e]at q;cases q;exact e') x
theorem C2{f:Int->Bool}{n:Nat}{o:jX}(e:h.get? a=some o)(x:h.SetOf (ik C) a f n)(e':h'.get? a=some o):h'.SetOf (ik C) a f n:=oJ (λo' q=>by rw[e]at q;cases q;exact e') x
theorem dI.fz{o:OB}(x:Ext G G')(d:∀a,O a=r->∀o,h.get? a=some o->G'.F a=some o)(y:dI C G O h r v o):Rep C G' v o.fz:=by
 (refine m9 y ?_;clear y;intro a q5;subst q5;intro hO lC hF hc)
 induction o using OB.casesOn with
 |list xs=>
  (refine gg hc ?_;clear hc;intro vs n e q)
  exact .list (vs:=vs.toList) (n:=n) (d a hO _ (by simpa using e)) (q.mono x)
 |dict es=>
  (refine m_ hc ?_;clear hc;intro hs f vs e q1 q6;refine jN q6 ?_;clear q6;intro q2 q3 q4)
  (refine xE (fZ e) λo ho=>?_)
  exact .dict (d a hO _ ho) (λh' e'=>vP ho e e') hs (q1.mono x) q2
 |set xs=>
  (refine xE (mH hc.1) λo ho=>?_)
  exact .set (d a hO _ ho) λh' e'=>C2 ho hc.1 e'
theorem gw.fz(x:Ext G G')(d:∀a k,O a=ρ k->∀o,h.get? a=some o->G'.F a=some o)(y:gw C G O h ρ j vs iG):bB C G' vs (iG.map FV.list):=y.ind (λ_=>.nil) λj _ _ _ _ y _ ih=>.cons (y.fz x λa e=>d a j e) ih
theorem f6.fz{o:OF}(x:Ext G G')(d:∀a,O a=r->∀o,h.get? a=some o->G'.F a=some o)(y:f6 C G O h r v o):Rep C G' v o.fz:=o.casesOn (motive:=λo=>f6 C G O h r v o->Rep C G' v o.fz) (λ_ y=>Rep.mono x y) (λ_ y=>dI.fz x d y) y
theorem gb.fz(x:Ext G G')(d:∀a k,O a=ρ k->∀o,h.get? a=some o->G'.F a=some o){es:List b7}(y:gb C G O h ρ es fs):bB C G' (es.map (·.val)) ((fs.map λp=>(p.1,p.2.fz)).map (·.2))/\KeysAre es ((fs.map λp=>(p.1,p.2.fz)).map (·.1)):=
 y.ind ⟨.nil,trivial⟩ λ_ _ _ _ a b c _ ih=>⟨.cons (c.fz x λa e=>d a _ e) ih.1,a,b,ih.2⟩
theorem dM.fz(x:Ext G G')(d:∀a k,O a=ρ k->∀o,h.get? a=some o->G'.F a=some o)(y:dM C G O h ρ v t):Rep C G' v t.fz:=by
 induction t using OT.casesOn with
 |ob o=>exact dI.fz x (λa e=>d a 0 e) y
 |gu iG=>
  (refine fS y ?_;clear y;intro a vs n q7;subst q7;intro hO lC hF e q)
  exact .list (vs:=vs.toList) (n:=n) (d a _ hO _ (by simpa using e)) (q.fz x d)
 |inst c fs=>
  (refine Us y ?_;clear y;intro hc a q8;refine fS q8 ?_;clear q8;intro dd i3 n NU;subst NU;intro hO lC hF e q9;refine iQ q9 ?_;clear q9;intro uP Pb QV BN ed VJ;refine xA VJ ?_;clear VJ;intro q hn)
  (refine xA (q.fz x d) λq1 q2=>?_)
  exact .inst hc (d _ _ hO _ e) (d _ _ uP _ ed) q1 q2
theorem gY{P:aO->Prop}[DecidablePred P]{b:aO}{r:Role}(e:O b=some r)(n:¬P b):frozen O P b=some r:=by unfold frozen;exact eW (if_neg n)<|e
theorem tR{P:aO->Prop}[DecidablePred P]{b:aO}(e:O b=none):frozen O P b=none:=by unfold frozen;split;rfl;exact e
theorem cL.Tw(F:cL C G O sc ns env fr h)(hs:fr[i]?=some (.own t))[DecidablePred λa=>∃κ,O a=some (Role.own i κ)]:
 cL C (G.with h λa=>∃κ,O a=some (Role.own i κ)) (frozen O λa=>∃κ,O a=some (Role.own i κ)) sc ns env (fr.set i (.val t.fz)) h:=by
 have hP:∀a,(∃κ,O a=some (Role.own i κ))->∃r,O a=some r/\r≠.ki:=λa q12=>xE q12 λκ e=>⟨_,e,by intro e;exact Role.noConfusion e⟩
 have x:=rP (P:=λa=>∃κ,O a=some (Role.own i κ)) F.iK hP
 have hi:i<fr.length:=by
  induction q:decide (i<fr.length)using ax with
  |true=>exact of_decide_eq_true q
  |false=>rw[ba (bu (of_decide_eq_false q))]at hs;exact nn hs
 have Bk:∀{b:aO}{r:Role},O b=some r->(∀κ,r≠.own i κ)->¬∃κ,O b=some (Role.own i κ):=λe n q13=>xE q13 λκ e'=>by rw[e]at e';cases e';exact n κ rfl
 have iK:∀b r,frozen O (λa=>∃κ,O a=some (Role.own i κ)) b=some r->(G.with h λa=>∃κ,O a=some (Role.own i κ)).F b=none/\eQ C (G.with h λa=>∃κ,O a=some (Role.own i κ)) b/\∃o,h.get? b=some o:=λb r e=>by
  (refine xA (lg e) λe1 e2=>?_)
  (refine jN (F.iK b r e1) λh1 h2 h3=>?_)
  exact⟨by exact eW (d7 (P:=λa=>∃κ,O a=some (Role.own i κ)) e2)<|h1,h2,h3⟩
 have other:∀{j:Nat}{sl:Slot}{ov:Option aB},j≠i->cV C G O h j sl ov->cV C (G.with h λa=>∃κ,O a=some (Role.own i κ)) (frozen O λa=>∃κ,O a=some (Role.own i κ)) h j sl ov:=λ{j sl ov} hj S=>by
  refine S.ghost x (λa r e hk=>?_) λa r e=>(lg e).1
  have n:=Bk e λκ q=>by
   rcases hk with rfl|⟨k,rfl⟩
   . exact Role.noConfusion q
   . cases q;exact hj rfl
  have e':=gY (P:=λa=>∃κ,O a=some (Role.own i κ)) e n;exact⟨e',(iK a r e').1,(iK a r e').2.1⟩
 have here:∀{ov:Option aB},cV C G O h i (.own t) ov->cV C (G.with h λa=>∃κ,O a=some (Role.own i κ)) (frozen O λa=>∃κ,O a=some (Role.own i κ)) h i (.val t.fz) ov:=λ{ov} q14=>bS q14 λv e T=>
  ⟨v,e,T.fz x λa k e o ho=>by exact eW (fT (P:=λa=>∃κ,O a=some (Role.own i κ)) ⟨k,e⟩)<|ho⟩
 refine⟨F.fn,F.glob,F.bi,F.nodup,by refine eW lq ?_;exact F.len,iK,F.gl,F.cl,gY F.lN (Bk F.lN λκ q=>by exact Role.noConfusion q),?_,λj y sl hy eE hk=>?_,F.iS,F.code.imp id λq15=>xE q15 λq c=>⟨q,c.mono x.f⟩,λhm j y d hy eE=>?_⟩
 . (refine bS (F.loc) λm hm q=>?_)
   refine⟨m,hm,λj y sl hy eE hk=>?_⟩;by_cases hj:j=i
   . subst hj
     rw[cu hi]at eE;cases eE;exact here (q j y _ hy hs hk)
   . rw[b_ (d5 hj)]at eE
     exact other hj (q j y sl hy eE hk)
 . by_cases hj:j=i
   . subst hj
     rw[cu hi]at eE;cases eE
     (refine fo (F.p9 j y _ hy hs hk) λsO c ov e1 e2 e3 e4 e5 e6=>?_)
     exact⟨sO,c,ov,e1,e2,here e3,gY e4 (Bk e4 λκ q=>by simp[Slot.writable]at q),e5,λ_=>e6 rfl⟩
   . rw[b_ (d5 hj)]at eE
     (refine fo (F.p9 j y sl hy eE hk) λsO c ov e1 e2 e3 e4 e5 e6=>?_)
     refine⟨sO,c,ov,e1,e2,other hj e3,?_,e5,e6⟩;induction hw:sl.writable using ax with
     |true=>rw[hw,if_pos rfl]at e4;exact eW (if_pos rfl)<|gY e4 (Bk e4 λκ q=>by exact Role.noConfusion q)
     |false=>rw[hw,if_neg ay]at e4;exact eW (if_neg ay)<|tR e4
 . by_cases hj:j=i
   . subst hj
     rw[cu hi]at eE;cases eE
   . rw[b_ (d5 hj)]at eE
     (refine gg (F.ro hm j y d hy eE) λc o h1 h2=>?_)
     exact⟨c,o,h1,x.f _ _ h2⟩
open Classical in
theorem Zq{b:List bV}{r:IB}(hb:qM C bp N k sc ns b r):qM C bp N k sc ns b (.cons (.fz i) r):=λG O env A s fr wl fl cJ bQ q H=>ob q λy q1 q=>Ap q1 λt h1 q1=>
 have hs:fr[i]?=some (.own t):=ob h1 λsl g1 g2=>(Slot.vw (P:=λsl=>fr[i]?=some sl->_) g2 λg=>g) g1
 xA (TA (P:=λa=>∃κ,O a=some (Role.own i κ)) H.W H.F.iK λa h=>xE h λκ e=>⟨_,e,nofun⟩) λW' X=>cX (hb _ _ env A s _ wl fl cJ bQ (by rw[<-ag q1]at q;exact q) ⟨H.base,H.room,W',H.F.Tw hs⟩) λf b0 h=>h.after X
theorem cL.V9{c:aO}(F:cL C G O sc ns env fr h)(hx:ns[i]?=some x)(hs:fr[i]?=some (.val d))(hk:env.kindOf x≠some .local)(hc:env.cells.lookup x=some c)(qY:h.IsCell c ov)(hO:O c=some (.cell x))
 [DecidablePred λa=>a=c]:cL C (G.with h λa=>a=c) (frozen O λa=>a=c) sc ns env (fr.set i (.ro d)) h:=by
 have hP:∀a,a=c->∃r,O a=some r/\r≠.ki:=λa e=>⟨_,e▸hO,by intro e;exact Role.noConfusion e⟩
 have xe:=rP (P:=λa=>a=c) F.iK hP
 have hi:i<fr.length:=by
  induction q:decide (i<fr.length)using ax with
  |true=>exact of_decide_eq_true q
  |false=>rw[ba (bu (of_decide_eq_false q))]at hs;exact nn hs
 have Bk:∀{b:aO}{r:Role},O b=some r->r≠.cell x->¬b=c:=λe n e'=>by rw[e',hO]at e;cases e;exact n rfl
 have iK:∀b r,frozen O (λa=>a=c) b=some r->(G.with h λa=>a=c).F b=none/\eQ C (G.with h λa=>a=c) b/\∃o,h.get? b=some o:=λb r e=>by
  (refine xA (lg e) λe1 e2=>?_)
  (refine jN (F.iK b r e1) λh1 h2 h3=>?_)
  exact⟨by exact eW (d7 (P:=λa=>a=c) e2)<|h1,h2,h3⟩
 have other:∀{j:Nat}{sl:Slot}{ov:Option aB},cV C G O h j sl ov->cV C (G.with h λa=>a=c) (frozen O λa=>a=c) h j sl ov:=λ{j sl ov} S=>by
  refine S.ghost xe (λa r e hk=>?_) λa r e=>(lg e).1
  have e':=gY (P:=λa=>a=c) e (Bk e λq=>by
   rcases hk with rfl|⟨k,rfl⟩<;>cases q)
  exact⟨e',(iK a r e').1,(iK a r e').2.1⟩
 refine⟨F.fn,F.glob,F.bi,F.nodup,by refine eW lq ?_;exact F.len,iK,F.gl,F.cl,gY F.lN (Bk F.lN λq=>by exact Role.noConfusion q),?_,λj y sl hy eE sO=>?_,F.iS,F.code.imp id λq16=>xE q16 λq c=>⟨q,c.mono xe.f⟩,λhm j y d' hy eE=>?_⟩
 . (refine bS (F.loc) λm hm q=>?_)
   refine⟨m,hm,λj y sl hy eE uh=>?_⟩
   have hj:j≠i:=λe=>by subst e;rw[hx]at hy;cases hy;exact hk uh
   rw[b_ (d5 hj)]at eE;exact other (q j y sl hy eE uh)
 . by_cases hj:j=i
   . subst hj
     rw[hx]at hy;cases hy;rw[cu hi]at eE;cases eE
     (refine fo (F.p9 j x _ hx hs hk) λhk2 c' ZF e1 e2 e3 e4 e5 e6=>?_)
     rw[hc]at e1;cases e1
     (refine bS (other e3) λw q17=>?_;subst q17;intro R)
     exact⟨hk2,c,_,hc,e2,⟨w,rfl,R⟩,by simp[frozen,Slot.writable],e5,λq=>by exact ff q⟩
   . rw[b_ (d5 hj)]at eE
     (refine fo (F.p9 j y sl hy eE sO) λhk2 c' ZF e1 e2 e3 e4 e5 e6=>?_)
     refine⟨hk2,c',ZF,e1,e2,other e3,?_,e5,e6⟩
     have BN:y≠x:=λe=>hj (vF F.nodup hx (e▸hy));induction hw:sl.writable using ax with
     |true=>rw[hw,if_pos rfl]at e4;exact eW (if_pos rfl)<|gY e4 (Bk e4 λq=>by cases q;exact BN rfl)
     |false=>rw[hw,if_neg ay]at e4;exact eW (if_neg ay)<|tR e4
 . by_cases hj:j=i
   . subst hj
     rw[hx]at hy;cases hy
     (refine bS qY ?_;clear qY;intro o ho _)
     exact⟨c,o,hc,by exact eW (fT (P:=λa=>a=c) rfl)<|ho⟩
   . rw[b_ (d5 hj)]at eE
     (refine gg (F.ro hm j y d' hy eE) λc' o h1 h2=>?_)
     exact⟨c',o,h1,xe.f _ _ h2⟩
open Classical in
theorem Kv(hc:∀i∈aX,∃x,ns[i]?=some x/\(sc.s.names.lookup x==some .cell)=true)(H:Here C G O sc ns env fr wl k A s):∃G' O',bX C G G' O O' s s/\Here C G' O' sc ns env (pM fr aX) wl k A s:=by
 induction aX using ub generalizing fr G O with
 |nil=>exact⟨G,O,bX.refl C G O s,H⟩
 |cons i r ih=>
  have hr:∀j∈r,∃x,ns[j]?=some x/\(sc.s.names.lookup x==some .cell)=true:=λj hj=>hc j (aW _ hj)
  show∃G' O',bX C G G' O O' s s/\Here C G' O' sc ns env (((fr[i]?).bind Slot.val?).elim (pM fr r) λd=>pM (fr.set i (.ro d)) r) wl k A s;induction hv:(fr[i]?).bind Slot.val? using aA with
  |none=>exact ih hr H
  |some d=>
   have hs:fr[i]?=some (.val d):=ob hv λsl g1 g2=>(Slot.Je (P:=λsl=>fr[i]?=some sl->_) g2 λg=>g) g1;refine bS (hc i a7) λx hx hl=>?_
   have Yv:env.kindOf x≠some .local:=(H.F.cl x (by exact eW hl rfl)).elim (λq=>q▸nofun) λq=>q▸nofun;refine fo (H.F.p9 i x _ hx hs Yv) λ_ c ov e1 e2 e3 e4 e5 _=>?_;replace e4:O c=some (.cell x):=e4;refine xA (TA (P:=λa=>a=c) H.W H.F.iK λa e=>⟨.cell x,e▸e4,nofun⟩) λW' X=>?_;exact gg (ih hr (⟨H.base,H.room,W',H.F.V9 hx hs Yv e1 e2 e4⟩:Here C _ _ sc ns env (fr.set i (.ro d)) wl k A s)) λG' O' X' H'=>⟨G',O',X.trans X',H'⟩
theorem R7{b:List bV}{r:IB}(hc:∀i∈aX,∃x,ns[i]?=some x/\(sc.s.names.lookup x==some .cell)=true)(hb:qM C bp N k sc ns b r):qM C bp N k sc ns b (.cons (.lock aX) r):=λG O env A s fr wl fl cJ bQ q H=>
 gg (Kv hc H) λG' O' X H'=>cX (hb _ _ env A s _ wl fl cJ bQ q H') λf b0 h=>h.after X
end
section
variable {G0:Gh}
theorem tf{pos:dK}{f:aB}{xs:List EV}(hx:sc.s.names.lookup x=some .globalImplicit)(hd:(x==("__debug__":bA))=false)(hg:C.mg x=none)(hb:C.mb x=some f)
 (hf:∀a,f≠.ref a)(L:fO (dS C bp k sc ns) es il)(q:ox bp il fr wl=some (xs,bQ))(H:Here C G O sc ns env fr wl k A s)
 (h:∀vs G1 aM,Step C G G1 s aM->bz C G1 bQ aM.heap->u7 C G1 O s.heap aM.heap 0 vs xs->aK C.M A (call f vs) Q E aM):aK C.M A (eval (.Call (.Name x p) es [] pos) env) Q E s:=by
 have hev:eval (.Call (.Name x p) es [] pos) env=(do callWith pos (<-eval (.Name x p) env) [] (backTo pos (starEach es env)) (backToKw pos (keywordEach [] env))):=rfl;refine eW hev ?_;refine ai (x_ H.F.fn (H.F.gl x hx) (Calls.loadGlobal_builtin (by refine eW H.F.glob ?_;exact uL H) hg (by exact eW H.F.bi<|Bj H) hb ?_) hd)
 (refine xA (pH (pos:=pos) (env:=env) L) λh1 h2=>?_)
 refine P_ (P:=λh=>pn C.M f h) (by refine eW h1 ?_;rfl) (λ_ p=>p) (sS L (dQ (qz L G O env A s fr wl xs bQ pos 0 q H) (λvs aM q1=>dT q1 λG1 x1 W1 T=>?_) λ_ _ q=>q.elim));exact⟨zF hf,h vs G1 aM x1 W1 T⟩
theorem NJ{pos:dK}{b:BI}{own:Bool}(hb:b≠.sorted)(hx:sc.s.names.lookup x=some .globalImplicit)(he:x=b.word)(hg:GT.lookup x=none)(L:fO (dS C bp k sc ns) es il):
 dS C bp k sc ns (.Call (.Name x p) es [] pos) (.bj b own il):=
 .mk' (λG O env A s fr wl e bQ q H=>f9 q λxs w1 q1 q=>tM (P:=λe bQ=>aK C.M A _ (PE C G O s e bQ) ee s) q λy q2=>
  tf hx (by subst he;induction b using BI.casesOn<;>decide+kernel) (by subst he;exact H.base.free b hg) (by subst he;exact H.base.bi b) (BI.E1 b) L q1 H λvs G1 aM x1 W1 T=>cX (N4 hb H.room.handled H.base W1 T q2) λv b0 h=>h.after x1) (λ_ _=>rfl) (λ_ _=>dg rfl) rfl
theorem qJ{o:af}(h:k0 o=true)(env:ra):attributeBase o x env (eval o env)=eval o env:=by induction o using bF<;>first|rfl|exact ff h
theorem ND{o:af}{g:IE}{pos:dK}(ho:dS C bp k sc ns o g)(hs:k0 o=true)(hl:(p.endLine==pos.line)=true):dS C bp k sc ns (.Call (.Attribute o "strip" p) [] [] pos) (.ef .strip g .nil):=
 .mk' (λG O env A s fr wl e bQ q H=>f9 q λy w1 q1 q=>tM (P:=λe bQ=>aK C.M A _ (PE C G O s e bQ) ee s) q λr q2=>ob q2 λt h1 q2=>dU q2 λhz q2=>by
  exact eL (ag q2)<|Call_method0 (qJ hs env) hl (ho.run H q1 λv aM G1 x1 H1 R1=>yO R1 h1 λtk=>SB.strip (λt' k=>PE.after x1 (eP (e:=.fv _) k H1.W (Rep.str _ t'))) (kY hz.2))) (λ_ _=>rfl) (λ_ _=>dg rfl) rfl
theorem L9{i:Int}(h:eZ ds=some [i]):ds=[.int i]:=match ds,h with
 |d::r,h=>ob h λj h1 h=>Ap h λjs h2 e=>FV.D2 (P:=λd=>d::r=[.int i]) h1 (match r,js,h2,ag e with
  |[],_,h2,e=>by cases h2;cases e;rfl
  |d::r,js,h2,e=>by cases e;exact ob h2 λ_ _ h=>Ap h λ_ _ e=>nomatch e)
theorem Xm{ys:List EV}(h:xS ys=some [d]):ys=[.fv d]:=match ys,h with
 |y::r,h=>ob h λe h1 h=>Ap h λes h2 q=>eg (P:=λy=>y::r=[.fv d]) h1 (match r,es,h2,ag q with
  |[],_,h2,q=>by cases h2;cases q;rfl
  |z::r,es,h2,q=>by cases q;exact ob h2 λ_ _ h=>Ap h λ_ _ e=>nomatch e)
theorem Xv{P:List EV->EV->Prop}{x:EV}{ys:List EV}{r:EV}(h:PH x ys=some r)(k:∀i xs is,x.eh=some xs->eZ xs=some is->P [.fv (.int i)] (.fv (.int (is.count i)))):P ys r:=
 ob h λds h1 h=>ob h λjs h2 h=>ob h λxs h3 h=>ob h λis h4 h=>js.casesOn (motive:=λjs=>eZ ds=some js->(match js with|[i]=>some (EV.fv (.int (is.count i)))|_=>ab)=some r->P ys r) (λ_ h=>nn h)
  (λi js=>js.casesOn (motive:=λjs=>eZ ds=some (i::js)->(match(i::js:List Int)with|[i]=>some (EV.fv (.int (is.count i)))|_=>ab)=some r->P ys r) (λh2 h=>(Xm (h1.trans (congrArg some (L9 h2)))).symm▸sk (P:=λr=>P _ r) h (k i xs is h3 h4)) λ_ _ _ h=>nn h) h2 h
theorem Pq{a:IE}{xs:List EV}(h:ox bp (.cons a .nil) fr wl=some (xs,bQ)):∃z,xs=[z]/\ev bp a fr wl=some (z,bQ):=
 f9 (ku.symm.trans h) λz w q1 h=>sp (P:=λxs bQ=>∃z,xs=[z]/\ev bp a fr wl=some (z,bQ)) h ⟨z,rfl,q1⟩
theorem NH{o e1:af}{g a:IE}{pos:dK}(ho:dS C bp k sc ns o g)(ha:dS C bp k sc ns e1 a)(hs:k0 o=true)(hl:(p.endLine==pos.line)=true):dS C bp k sc ns (.Call (.Attribute o "count" p) [e1] [] pos) (.ef .count g (.cons a .nil)):=
 .mk' (λG O env A s fr wl e bQ q H=>f9 q λy w1 q1 q=>f9 q λxs w2 q2 q=>tM (P:=λe bQ=>aK C.M A _ (PE C G O s e bQ) ee s) q λr q3=>by
  refine(Xv (P:=λxs r=>ox bp (.cons a .nil) fr w1=some (xs,w2)->aK C.M A _ (PE C G O s r w2) ee s) q3 λi xs is hx q4 q2=>?_) q2
  have q2:ev bp a fr w1=some (.fv (.int i),w2):=bS (Pq q2) λz e h=>(aL e).1▸h;refine IQ (qJ hs env) hl (by refine eW (mG ha.star) ?_;rfl) (ho.run H q1 λv aM G1 x1 H1 R1=>?_);refine jM (zE H1.W R1 hx) λl vs n hv h1 r1=>?_;subst hv;refine⟨_,_,i9,PySem.F.slot_list_count,PySem.F.type_list_count,⟨_,h1,rfl⟩,(λb eb=>by cases eb;exact⟨_,h1,rfl⟩),ot rfl (qh (r7 (ha.run H1 q2 λu b0 G2 x2 H2 R2=>mC ?_)))⟩;refine ug R2 λt=>?_
  (refine jM (zE H2.W (R1.step x2) hx) λl' CA n' e CD r1'=>?_)
  cases e;exact count_list_ints ⟨_,CD,rfl,n',rfl⟩ (fE r1' q4) (PE.after (x1.trans x2) (eP (e:=.fv _) _ H2.W (Rep.int _ _)))) (λ_ _=>rfl) (λ_ _=>dg rfl) rfl
theorem nW.step(x:Step C G G' s s'){e:EV}(y:nW C G O bq s.heap i v e):nW C G' O bq s'.heap i v e:=match e,y with
 |.fv _,y=>Rep.mono x.ext y
 |.bor _,y=>xE y λρ q=>⟨ρ,dM.step x q⟩
 |.own t,y=>dM.step x (show dM C G bq s.heap (λk=>some (.own i k)) v t from y)
theorem dB.step(x:Step C G G' s s'){es:List EV}(y:dB C G O bq s.heap i vs es):dB C G' O bq s'.heap i vs es:=y.ind (λ_=>trivial) λ_ _ _ _ _ y _ ih=>⟨nW.step x y,ih⟩
theorem nV.step(x:Step C G G' s s')(m:nV C G h₀ s.heap i bq):nV C G' h₀ s'.heap i bq:=λa r e=>
 let⟨h1,h2,h3,h4,o,h5⟩:=m a r e
 ⟨h1,h2,x.Aq h3 h5,x.free h4 h5,o,x.keep _ _ h4 h5⟩
noncomputable def QH(x:EV):Bool:=x.casesOn (λ_=>false) (λ_=>true) λ_=>false
theorem VK{e:EV}(h:e.Dh=some sl):sl=e.slot/\∀t,e≠.bor t:=
 e.casesOn (motive:=λe=>e.Dh=some sl->sl=e.slot/\∀t,e≠.bor t) (λ_ h=>⟨(ag h).symm,λ_ h=>ff (congrArg QH h)⟩) (λ_ h=>nn h) (λ_ h=>⟨(ag h).symm,λ_ h=>ff (congrArg QH h)⟩) h
theorem AY{es:List EV}:∀{fr cJ:List Slot},jP fr is es=some cJ->oj fr is (es.map EV.slot)=some cJ/\∀e∈es,∀t,e≠.bor t:=
 l2 (P:=λis es=>∀{fr cJ:List Slot},jP fr is es=some cJ->oj fr is (es.map EV.slot)=some cJ/\∀e∈es,∀t,e≠.bor t) is es (λq=>⟨q,λ_ h=>absurd h a8⟩)
  (λi is e es ih _ _ q=>ob q λsl h0 q=>ob q λf_ h1 h2=>xA (ih h2) λh3 h4=>xA (VK h0) λb1 b2=>⟨bs (b1▸h1) h3,λz hz t=>(a6.mp hz).elim (λe'=>e'▸b2 t) λhz=>h4 z hz t⟩) (λ_ _ _ _ q=>nn q) (λ_ _ _ _ q=>nn q)
theorem Nd{full:List Nat}{e:EV}(h1:full[j]?=some i)(hn:∀t,e≠.bor t)(y:nW C G O bq h j v e):cV C G (oq O bq full) h i e.slot (some v)/\e.slot.writable=true:=
 e.casesOn (motive:=λe=>(∀t,e≠.bor t)->nW C G O bq h j v e->cV C G (oq O bq full) h i e.slot (some v)/\e.slot.writable=true) (λd _ y=>⟨⟨v,rfl,y⟩,rfl⟩) (λt hn _=>absurd rfl (hn t))
  (λt _ y=>⟨⟨v,rfl,dM.relabel (λa k e=>by
    unfold oq;refine eW e ?_
    show some (Role.own (full.getD j 0) k)=some (.own i k);refine eW mf<|eW h1 ?_;rfl) (show dM C G bq h (λk=>some (.own j k)) v t from y)⟩,rfl⟩) hn y
theorem Nc{full:List Nat}{es:List EV}(hd:is=full.drop j)(hl:is.length=es.length)(hn:∀e∈es,∀t,e≠.bor t)(y:dB C G O bq h j vs es):Vals C G (oq O bq full) h is vs (es.map EV.slot):=
 y.ind (P:=λj vs es=>∀is,is=full.drop j->is.length=es.length->(∀e∈es,∀t,e≠.bor t)->Vals C G (oq O bq full) h is vs (es.map EV.slot)) (λ_ is _ hl _=>xo hl▸trivial)
  (λj v vs e es y _ ih is=>is.casesOn (λ_ hl=>nomatch hl) λi is hd hl hn=>xA (drop_cons hd.symm) λh1 h2=>xA (Nd h1 (hn e a7) y) λa b=>⟨a,b,ih is h2.symm (kM hl) λe he=>hn e (aW _ he)⟩) is hd hl hn
theorem zk{f_ sQ:List Slot}{x y:Slot}(hn:i≠j)(h1:setSlot fr i x=some f_)(h2:setSlot f_ j y=some sQ):∃fr3,setSlot fr j y=some fr3/\setSlot fr3 i x=some sQ:=by
 (refine dT (set_slot h1) λo1 a1 a2 q3=>?_;subst q3)
 (refine dT (set_slot h2) λo2 b1 b2 q4=>?_;subst q4)
 rw[b_ hn]at b1
 have mk:∀{f:List Slot}{i:Nat}{o x:Slot},f[i]?=some o->o.writable=true->setSlot f i x=some (f.set i x):=λ{f i o x} e w=>by
  unfold setSlot;refine eW e ?_;induction o using Slot.casesOn<;>first|rfl|exact ff w
 refine⟨_,mk b1 b2,?_⟩;rw[mk (by rw[b_ (d5 hn)];exact a1) a2,List.set_comm _ _ hn]
theorem yn:∀{is:List Nat}{gU:List Slot}{fr cJ:List Slot}{i:Nat}{x:Slot},is.length=gU.length->oj fr (is++[i]) (gU++[x])=(oj fr is gU).bind λf=>setSlot f i x
 |[],[],fr,cJ,i,x,_=>by
  simp only[lp,oj,bK];induction setSlot fr i x using aA<;>rfl
 |j::is,y::gU,fr,cJ,i,x,hl=>by
  show(setSlot fr j y).bind (λf=>oj f (is++[i]) (gU++[x]))=((setSlot fr j y).bind λf=>oj f is gU).bind _;induction setSlot fr j y using aA with
  |none=>rfl
  |some f=>exact yn (cJ:=cJ) (by simpa using hl)
 |[],_::_,_,_,_,_,hl=>by simp at hl
 |_::_,[],_,_,_,_,hl=>by simp at hl
theorem GW{f_ sQ:List Slot}{x:Slot}(hn:i∉is)(h1:setSlot fr i x=some f_)(h2:oj f_ is gU=some sQ):∃f,oj fr is gU=some f/\setSlot f i x=some sQ:=
 l2 (P:=λis gU=>∀fr f_,i∉is->setSlot fr i x=some f_->oj f_ is gU=some sQ->∃f,oj fr is gU=some f/\setSlot f i x=some sQ) is gU (λfr _ _ h1 h2=>⟨fr,rfl,h1.trans h2⟩)
  (λj is y gU ih fr f_ hn h1 h2=>bS (jd.mp h2) λg h3 h4=>bS (zk (λe=>hn (by exact eW e a7)) h1 h3) λg3 h5 h6=>bS (ih _ _ (λe=>hn (aW _ e)) h6 h4) λf h7 h8=>
    ⟨f,bs h5 h7,h8⟩) (λ_ _ _ _ _ _ h2=>nn h2) (λ_ _ _ _ _ _ h2=>nn h2) fr f_ hn h1 h2
theorem AZ:∀{is:List Nat}{gU:List Slot}{fr cJ:List Slot},is.Nodup->oj fr is gU=some cJ->oj fr is.reverse gU.reverse=some cJ
 |[],[],_,_,_,h=>h
 |i::is,x::gU,fr,cJ,nd,h=>by
  (refine xA (cp.mp nd) λn1 n2=>?_)
  (refine bS (jd.mp h) λg h1 h2=>?_)
  (refine bS (GW n1 h1 h2) λf h3 h4=>?_)
  rw[dW,dW,yn (cJ:=cJ) (by rw[iN,iN];exact oI h2),AZ n2 h3];exact h4
 |[],_::_,_,_,_,h=>by exact nn h
 |_::_,[],_,_,_,h=>by exact nn h
theorem Vals.append{js:List Nat}{tls:List Slot}(y:Vals C G O h is vs gU)(z:Vals C G O h js us tls):Vals C G O h (is++js) (vs++us) (gU++tls):=y.ind z λ_ _ _ _ _ _ a b _ ih=>⟨a,b,ih⟩
theorem Vals.rev(y:Vals C G O h is vs gU):Vals C G O h is.reverse vs.reverse gU.reverse:=
 y.ind trivial λ_ _ _ _ _ _ a b _ ih=>dW.symm▸dW.symm▸dW.symm▸ih.append ⟨a,b,trivial⟩
theorem eJ.append:∀{is js:List Nat}{ts us:List (aB->Sem Unit)},eJ C env ns is ts->eJ C env ns js us->eJ C env ns (is++js) (ts++us)
 |[],_,[],_,_,y=>y
 |_::_,_,_::_,_,x,y=>⟨x.1,eJ.append x.2 y⟩
theorem eJ.rev:∀{is:List Nat}{ts:List (aB->Sem Unit)},eJ C env ns is ts->eJ C env ns is.reverse ts.reverse
 |[],[],_=>trivial
 |i::is,t::ts,x=>by
  exact eW dW<|eW dW<|(eJ.rev x.2).append ⟨x.1,trivial⟩
end
section
variable {G0:Gh}
theorem filter_le{f:af->Option bA}:∀es:List af,(es.filterMap f).length<=es.length
 |[]=>aT _
 |e::es=>by
  refine eW lI ?_
  have:=filter_le (f:=f) es;induction f e using aA<;>simp<;>omega
theorem yq{f:af->Option bA}(hf:∀e y,f e=some y->∃p,e=.Name y p):∀{is:List Nat}{es:List af},ly ns is es=true->
 (es.filterMap f).length=es.length->eJ C env ns is ((es.filterMap f).map λn=>bindName env n)
 |[],es,h,_=>l0 h trivial
 |i::is,es,h,hn=>BO (P:=λes=>(es.filterMap f).length=es.length->eJ C env ns (i::is) ((es.filterMap f).map λn=>bindName env n)) h (λe es h hn=>an h λh1 h2=>by
  have hle:=filter_le (f:=f) es;rw[lI]at hn⊢;induction e':f e using aA with
  |none=>rw[e']at hn;exact absurd (ak (bh hn.symm) hle) (qU _)
  |some y=>
   rw[e']at hn
   (refine xE (hf e y e') λp q1=>?_;subst q1)
   exact⟨⟨y,eq_of_beq h1,AO⟩,yq hf h2 (kM hn)⟩) hn
theorem CZ{vs:List af}{n n':Nat}{p':dK}(ha:ly ns is es=true)
 (hc:vs.all (constantsAlone 8)=false\/vs.all (foldedForSure 8)=true):
 swappedStores [.Tuple es n p] (.Tuple vs n' p') env=pure none\/∃names,swappedStores [.Tuple es n p] (.Tuple vs n' p') env=pure (some names)/\names.length=es.length/\eJ C env ns is (names.map λn=>bindName env n):=by
 unfold swappedStores;dsimp only;split
 . exact .inl rfl
 . split
   . exact .inl rfl
   split
   . exact .inl rfl
   . rename_i hN
     split
     . exact .inl rfl
     . rename_i hF
       rcases hc with hc|hc
       . refine eW hc ?_
         simp only[ey,if_false];simp only[gO,bne_iff_ne,ne_eq,not_or,Decidable.not_not]at hN;exact .inr ⟨_,rfl,hN.1,yq (λe y q=>by
          induction e using bF<;>simp only[reduceCtorEq]at q;split at q
          . cases q;exact⟨_,rfl⟩
          . exact nn q) ha hN.1⟩
       . exact absurd hc hF
theorem NF{vs:List af}{n n':Nat}{p' pos:dK}(ht:cY ns (.Tuple es n p) is=true)(nd:is.Nodup)(L:fO (dS C bp k sc ns) vs il)(hv:vs.length=es.length)(hv2:vs.length<1000)
 (hc:vs.all (constantsAlone 8)=false\/vs.all (foldedForSure 8)=true):jw C bp N k sc ns (.Assign [.Tuple es n p] (.Tuple vs n' p') pos) (.jk is il):=λG O env A s fr wl fl cJ bQ q H=>f9 q λxs w1 q1 q=>MM q λsQ q2=>by
 refine jN (ka (C:=C) (env:=env) (g_ ht).2) λT1 T2 T3=>xA (AY q2) λqS qb=>?_
 have hls:=oI qS;rw[aj]at hls
 have Pd:=sC (g_ ht).2
 have vals:∀{Q:aB->aN->Prop},(∀nY(b0:aN) tv tn G1 O',tv=.ref tn->b0.heap.get? tn=some {cls:=.type "tuple",data:=.seq nY.toArray 0}->nY.length=is.length->bX C G G1 O O' s b0->bz C G1 w1 b0.heap->cL C G1 O' sc ns env fr b0.heap->
  Vals C G1 O' b0.heap is nY (xs.map EV.slot)->Q tv b0)->aK C.M A (eval (.Tuple vs n' p') env) Q ee s:=λ{Q} hQ=>by
  refine eW (aa_ ..) ?_;refine ai (cc (ai (cX (qz L G O env A s fr wl xs w1 p' 0 q1 H) λnY aM r=>dT r λG1 x1 W1 r=>bS r λbq m R=>?_)))
  have hl2:=R.length
  have hl:=qG L q1
  have x2:Step C G1 G1 aM {aM with heap:=aM.heap.push {cls:=.type "tuple",data:=.seq nY.toArray 0}}:=.grow _ aM.toks (cQ _)
  have m2:nV C G1 s.heap _ 0 bq:=nV.step x2 m;refine aa5 (hQ nY _ _ _ G1 (oq O bq is) rfl (hC rfl) (by lia) (rr (x1.trans x2) m2) (W1.grow (cQ _)) (H.F.zD (x1.trans x2) m2) (Nc (j:=0) rfl hls qb (R.step x2))) (by refine eW dp ?_;lia)
 rcases CZ (C:=C) (ns:=ns) (n:=n) (n':=n') (p:=p) (p':=p') (env:=env) (g_ ht).2 hc with hw|⟨names,hw,hn,hN⟩
 . refine Mt (vals λnY b0 tv tn G1 O' ev ho hl X W F V=>?_) rfl hw
   subst ev;refine nT (items:=nY.toArray) H.room.handled ⟨_,ho,rfl,0,rfl⟩ (by refine eW T3<|eW cj ?_;lia) T2 λh' hx=>?_
   have k2:∀b o,b0.heap.get? b=some o->h'.get? b=some o:=λb o e=>hx b o (bx (bb e)) e
   have x3:Step C G1 G1 b0 {b0 with heap:=h'}:=.grow h' b0.toks k2;exact cX (pF is _ _ _ fr sQ _ (X.trans x3.o) (W.grow k2) (F.step x3) T1 (V.move λa r _ _ o e=>k2 a o e) qS) λ_ s' h=>h.next
 . refine Assign_Tuple_swapped (vals λnY b0 tv tn G1 O' ev ho hl X W F V=>?_) rfl hw
   subst ev;refine eW hn<|eW Pd<|eL hl<|eW (show nY.length=nY.toArray.size from(cj (as:=nY)).symm) ?_;refine unpackItems_tuple H.room.handled ⟨_,ho,rfl,0,rfl⟩ λh' hx=>?_
   have k2:∀b o,b0.heap.get? b=some o->h'.get? b=some o:=λb o e=>hx b o (bx (bb e)) e
   have x3:Step C G1 G1 b0 {b0 with heap:=h'}:=.grow h' b0.toks k2
   have hT:=hN.rev;rw[<-M0]at hT;exact cX (pF is.reverse _ _ _ fr sQ _ (X.trans x3.o) (W.grow k2) (F.step x3) hT (V.move λa r _ _ o e=>k2 a o e).rev (AZ nd qS)) λ_ s' h=>h.next
end
section
variable {G0:Gh}
theorem cL.oW{P:aO->Prop}(F:cL C G O sc ns env fr h)(n:∀a,P a->O a=none)(nc:∀a,P a->∀(j:Nat)(y:bA),ns[j]?=some y->env.kindOf y≠some .local->env.cells.lookup y≠some a)(k:∀b,¬P b->c7 h h' b):cL C G O sc ns env fr h':=
 have kO:∀{b:aO}{r:Role},O b=some r->c7 h h' b:=λe=>k _ λq=>gone (n _ q) e
 {F with
  iK:=λb r e=>mF (F.iK b r e) λh1 h2 o h3=>⟨h1,h2,o,kO e _ h3⟩
  loc:=bS F.loc λm hm q=>⟨m,hm.at' (kO F.lN),λi x s e1 e2 e3=>(q i x s e1 e2 e3).move λb r e _=>⟨e,kO e⟩⟩
  p9:=λi x s e1 e2 e3=>xA (F.p9 i x s e1 e2 e3) λhk q=>iP q λc ov q1 q2 q3 q=>⟨hk,c,ov,q1,bS q2 λoc q2 Zz=>⟨oc,k c (λq=>nc c q i x e1 e3 q1) _ q2,Zz⟩,q3.move λb r e _=>⟨e,kO e⟩,q⟩}
theorem bz.oW{P:aO->Prop}(W:bz C G wl h)(f:∀a,P a->G.F a=none)(fr:∀a,P a->eQ C G a)(k:∀b,¬P b->c7 h h' b):bz C G wl h' where
 sub:=λb o e=>k b (λq=>gone (f b q) e) _ (W.sub b o e)
 base:=W.base
 tabs:=λq hq=>qn (W.tabs q hq) λh1 h2 ps h3 r=>⟨h1,h2,ps,k _ (λhp=>(fr _ hp).1 q hq rfl) _ h3,r⟩
 well:=W.well.loose λb e=>k b λq=>(fr _ q).2 e
theorem bX.oW{P:aO->Prop}{t:Nat}(x:bX C G G' O O' s s')(n:∀a,P a->s.heap.get? a=none)(k:∀b,¬P b->c7 s'.heap h' b):bX C G G' O O' s {s' with heap:=h',toks:=t}:=
 {x with
  keep:=λb o f hn e=>k b (λq=>gone (n b q) e) _ (x.keep b o f hn e)
  alive:=λb o e=>xE (x.alive b o e) λo' e'=>⟨o',k b (λq=>gone (n b q) e) _ e'⟩}
theorem G9{k1:Nat}{q1 q2 pos:dK}{b:List bV}{a:IE}{x:IB}(ht:cY ns (.Tuple es k1 p) [i,j]=true)
 (hx:sc.s.names.lookup (aa "enumerate")=some .globalImplicit)(hi:dS C bp k sc ns it a)(hb:qM C bp N k sc ns b x):
 jw C bp N k sc ns (.For (.Tuple es k1 p) (.Call (.Name (aa "enumerate") q1) [it] [] q2) b [] pos) (.kS i j a x):=λG O env A s fr wl fl cJ bQ q H=>f9 q λy w1 q1 q=>ob q λxs q2 q3=>by
 have qe:ev bp a fr wl=some (.fv (.list xs),w1):=ob q2 λCz h1 h2=>z2 h2 λ_ e=>e▸ob h1 λd g1 g2=>(eg (P:=λy=>ev bp a fr wl=some (y,w1)->_) g1 (FV.xF (P:=λd=>ev bp a fr wl=some (.fv d,w1)->_) g2 λh=>h)) q1;clear q q1 q2;refine jN (ka (C:=C) (env:=env) (g_ ht).2) λT1 T2 T3=>xA H.base.enum λTo D5=>?_
 have Pd:=sC (g_ ht).2;refine wpAny_For (tf hx (by decide+kernel) To D5 nofun (il:=.cons a .nil) ⟨hi,trivial⟩ (xs:=[.fv (.list xs)]) (bQ:=w1) (ku.trans (bs qe (ms F8))) H λvs G1 aM x1 W1 T=>fv1 T λv R=>?_) (λ_=>rfl)
 have F1:=H.F.step x1;refine jM R.inv λl us n hv hl R1=>?_;subst hv
 have hl1:=W1.sub _ _ hl
 have hlen:=R1.length;refine call_enumerate_1 hl1 λh' hE hI QK k1=>?_;refine wpAny_pyIter_enum hE ?_
 have x2:Step C G1 G1 aM {aM with heap:=h'}:=.grow h' aM.toks k1
 have ZJ:∀{c:aO},aM.heap.objs.size<=c->aM.heap.get? c=none:=λ{c} hc=>by
  induction q:aM.heap.get? c using aA with
  |none=>rfl
  |some o=>exact absurd (bb q) (cG.mpr hc)
 generalize hA1:aM.heap.objs.size=n0 at*
 have hEI:n0+1≠n0:=Nat.succ_ne_self _
 have nP:∀c,(c=n0+1\/c=n0)->aM.heap.get? c=none:=λc hc=>ZJ (by rcases hc with rfl|rfl<;>lia)
 have n00:∀c,(c=n0+1\/c=n0)->s.heap.get? c=none:=λc hc=>by
  induction q:s.heap.get? c using aA with
  |none=>rfl
  |some o'=>(refine xE (x1.alive _ _ q) λo2 h2=>?_);rw[nP c hc]at h2;exact nn h2
 have nc:∀c,(c=n0+1\/c=n0)->∀(j:Nat)(y:bA),ns[j]?=some y->env.kindOf y≠some .local->env.cells.lookup y≠some c:=λc hc=>F1.mS (nP c hc)
 have mkL:∀c,(c=n0+1\/c=n0)->(∃o,h'.get? c=some o)->Loose C G1 O h' c:=λc hc ho=>⟨kg W1 (nP c hc),gx W1 (nP c hc),(by
  induction q:O c using aA with
  |none=>rfl
  |some r=>(refine mF (F1.iK _ _ q) λ_ _ o' pZ=>?_);rw[nP c hc]at pZ;exact nn pZ),ho⟩
 have L1:=mkL (n0+1) (.inl rfl) ⟨_,hE⟩
 have L2:=mkL n0 (.inr rfl) (bS (hI) λo ho _=>⟨o,ho⟩);refine Rn (Mf C G O sc ns env s λG' O' s' m Ii=>∃t rest old,m=rest.length/\xs.drop t=rest/\Ext G1 G'/\IsEnum s'.heap (n0+1) n0 ((t:Nat):Int) old/\s'.heap.IsListIter n0 l t/\Loose C G' O' s'.heap (n0+1)/\Loose C G' O' s'.heap n0/\
  Lh (λ(wW:St) n v=>(ez wW.1 [i,j] [.int n,v]).bind λfr=>hU bp N x (fr,wW.2)) rest t Ii=some (fl,cJ,bQ)) (λm s' h=>?_) xs.length
  ⟨G1,O,fr,w1,(x1.trans x2).o,W1.grow k1,F1.step x2,0,xs,.none,rfl,rfl,.refl G1,hE,hI,L1,L2,q3⟩
 refine jE h λG' O' gX ji h=>fA h λX W F h=>Az h λt rest old h=>fA h λhm hd xe h=>kI h λhE' QU UW UU q=>?_;subst hm
 have Yu:s'.heap.IsList l us.toArray:=⟨_,W.sub _ _ (xe.f _ _ hl),rfl,n,rfl⟩
 have nO:∀c,(c=n0+1\/c=n0)->O' c=none:=λc hc=>by rcases hc with rfl|rfl;exact UW.own;exact UU.own
 have nF:∀c,(c=n0+1\/c=n0)->G'.F c=none:=λc hc=>by rcases hc with rfl|rfl;exact UW.f;exact UU.f
 have nFr:∀c,(c=n0+1\/c=n0)->eQ C G' c:=λc hc=>by rcases hc with rfl|rfl;exact UW.free;exact UU.free
 induction rest using bP with
 |nil=>
  refine xp q ?_
  have hn:us.toArray[t]?=none:=by
   have:=qx.mp hd;simp;lia
  refine wpAny_pyNext_enum_end H.room.handled hE' QU Yu hn λwj hx2=>Cp ?_
  have k:∀b,¬(b=n0+1\/b=n0)->c7 s'.heap wj b:=λb q o e=>hx2 b o (λq2=>q (.inr q2)) e;exact⟨G',O',X.oW n00 k,W.oW nF nFr k,F.oW nO nc k,trivial⟩
 |cons d rest=>
  refine xA (drop_cons hd) λg1 g2=>bS (R1.get g1) λw g3 g4=>f9 q λf1 y q5 q6=>ob q5 λwy q4 q5=>?_;refine wpAny_pyNext_enum_item hE' QU Yu (by simpa using g3) hEI λkm hEo QT hT abL k₁=>?_;refine wpAny_letOwnedTupleGo_enum hEo λwj QW JA=>?_
  have k:∀b,¬(b=n0+1\/b=n0)->c7 s'.heap wj b:=λb q o e=>(JA.2 b λe=>q (.inl e)).trans (k₁ b o (λe=>q (.inl e)) (λe=>q (.inr e)) e)
  have BN:s'.heap.objs.size≠n0+1:=e_ (bb hE')
  have W9:wj.IsTuple s'.heap.objs.size #[.int t s'.toks,w]:=⟨_,(JA.2 _ BN).trans hT,rfl,_,rfl⟩
  have X9:wj.IsListIter n0 l (t+1):=by
   (refine bS QT ?_;clear QT;intro o ho r)
   exact⟨o,(JA.2 _ (d5 hEI)).trans ho,r⟩
  have X1:=X.oW (t:=s'.toks+1) n00 k
  have W1':=W.oW nF nFr k
  have F1':=F.oW nO nc k;refine nT (items:=#[.int t s'.toks,w]) H.room.handled W9 (by refine eW T3 ?_;rfl) T2 λwi WA=>?_
  have k3:∀b o,wj.get? b=some o->wi.get? b=some o:=λb o e=>WA b o (bx (bb e)) e
  have x3:Step C G' G' {s' with heap:=wj,toks:=s'.toks+1} {s' with heap:=wi,toks:=s'.toks+1}:=.grow wi (s'.toks+1) k3
  have V:Vals C G' O' wi [i,j] [.int t s'.toks,w] ([FV.int t,d].map .val):=za rfl (.cons (.int _ _) (.one (g4.mono xe)))
  have L1a:Loose C G' O' wi (n0+1):=⟨UW.f,UW.free,UW.own,_,k3 _ _ QW⟩
  have L2a:Loose C G' O' wi n0:=⟨UU.f,UU.free,UU.own,(bS (X9) λo ho _=>⟨o,k3 _ _ ho⟩)⟩;refine cX (pF (E:=ee) [i,j] _ _ _ gX wy {s' with heap:=wi,toks:=s'.toks+1} (bX.refl C G' O' _) (W1'.grow k3) (cL.step x3 F1') T1 V (by refine eL nq ?_;exact q4)) λ_ et h=>cO h λG3 O3 X3 W3 F3=>?_;refine PS.to (hb G3 O3 env A et wy ji f1 y.1 y.2 q5 (H.next W3 F3)) λf lM G4 O4 X4 W4 F4 hf=>?_
  have X5:=X3.trans X4
  have L1b:=L1a.step (s:={s' with heap:=wi,toks:=s'.toks+1}) X5
  have L2b:=L2a.step (s:={s' with heap:=wi,toks:=s'.toks+1}) X5
  have hE4:IsEnum lM.heap (n0+1) n0 ((t+1:Nat):Int) w:=L1a.same (s:={s' with heap:=wi,toks:=s'.toks+1}) X5 _ (k3 _ _ QW)
  have hI4:lM.heap.IsListIter n0 l (t+1):=bS (X9) λo ho r=>⟨o,L2a.same (s:={s' with heap:=wi,toks:=s'.toks+1}) X5 _ (k3 _ _ ho),r⟩
  have XX:=(X1.trans x3.o).trans X5;exact z1 hf q6 (λq6=>⟨rest.length,bg _,G4,O4,y.1,y.2,XX,W4,F4,t+1,rest,_,rfl,g2,xe.trans X5.ext,hE4,hI4,L1b,L2b,q6⟩) (λq6=>⟨rest.length,bg _,G4,O4,y.1,y.2,XX,W4,F4,t+1,rest,_,rfl,g2,xe.trans X5.ext,hE4,hI4,L1b,L2b,q6⟩) λd' v hf q6=>xp q6 ⟨G4,O4,XX,W4,F4,hf⟩
end
section
variable {G0:Gh}
theorem El{names:List (bA×lT)}:∀(acc:List (bA×aO)),(∀p∈names,p.2=.free->∃c,env.cells.lookup p.1=some c)->
 ∃cl,(forIn names acc λ(p:bA×lT)(cs:List (bA×aO))=>(if(p.2==.free)=true then do let c<-cellOf env p.1;pure (fh ((p.1,c)::cs))else pure (fh cs):Sem _))=pure (cl++acc)/\
  (∀p∈cl,(p.1,ix)∈names/\env.cells.lookup p.1=some p.2)/\∀p∈names,p.2=.free->∃c,(p.1,c)∈cl:=by
 induction names with
 |nil=>intro acc _;exact⟨[],rfl,λ_ h=>(nomatch h),λ_ h=>(nomatch h)⟩
 |cons q r ih=>
  intro acc hc
  have hr:∀p∈r,p.2=.free->∃c,env.cells.lookup p.1=some c:=λp hp=>hc p (aW _ hp);by_cases hq:q.2=.free
  · (refine xE (hc q a7 hq) λc hcc=>?_)
    (refine dT (ih ((q.1,c)::acc) hr) λcl h1 h2 h3=>?_)
    refine⟨cl++[(q.1,c)],?_,λp hp=>?_,λp hp hf=>?_⟩
    . rw[je,if_pos (by rw[hq];rfl)]
      have Pe:cellOf env q.1=pure c:=by unfold cellOf;exact eW hcc rfl
      refine eW Pe ?_;simp only[pure_bind];exact eW h1<|eW (gZ ..) rfl
    . rcases cq.mp hp with hp|hp
      . exact⟨aW _ (h2 p hp).1,(h2 p hp).2⟩
      . simp only[aI]at hp
        subst hp;exact⟨by exact eL hq<|a7,hcc⟩
    . rcases a6.mp hp with rfl|hp
      . exact⟨c,dE _ (by simp)⟩
      . (refine xE (h3 p hp hf) λc' QQ=>?_)
        exact⟨c',dr _ QQ⟩
  . (refine dT (ih acc hr) λcl h1 h2 h3=>?_)
    refine⟨cl,?_,λp hp=>⟨aW _ (h2 p hp).1,(h2 p hp).2⟩,λp hp hf=>?_⟩
    . rw[je,if_neg (by simpa using hq)]
      simp only[pure_bind];exact h1
    . rcases a6.mp hp with rfl|hp
      . exact absurd hf hq
      . exact h3 p hp hf
theorem tV(hc:∀p∈scope.names,p.2=.free->∃c,env.cells.lookup p.1=some c):
 ∃cl,closureFor scope env=pure cl/\(∀p∈cl,(p.1,ix)∈scope.names/\env.cells.lookup p.1=some p.2)/\∀x,(x,ix)∈scope.names->cl.lookup x=env.cells.lookup x:=by
 (refine dT (El [] hc) λcl h1 h2 h3=>?_)
 rw[cC]at h1;refine⟨cl,?_,h2,λx hx=>?_⟩
 . simp only[closureFor]
   exact eW h1 rfl
 . (refine xE (h3 _ hx rfl) λc hm=>?_)
   have:∀{l:List (bA×aO)},(∀p∈l,env.cells.lookup p.1=some p.2)->(∃c,(x,c)∈l)->l.lookup x=env.cells.lookup x:=λ{l}=>by
    induction l with
    |nil=>intro _ ⟨c,hm⟩;cases hm
    |cons q l ih=>
     intro hl ⟨c,hm⟩;obtain⟨y,d⟩:=q;rw[bL];by_cases e:x=y
     . subst e
       rw[beq_self_eq_true];exact(hl (x,d) a7).symm
     . refine eW (beq_eq_false_iff_ne.mpr e) ?_
       refine ih (λp hp=>hl p (aW _ hp)) ⟨c,?_⟩;rcases a6.mp hm with q|q
       . cases q;exact absurd rfl e
       . exact q
   exact this (λp hp=>(h2 p hp).2) ⟨c,hm⟩
noncomputable def ue(env:ra)(x:bA)(k:lT):lT:=if(k==.free&&env.scope.kind==.function&&env.kindOf x==some .cell)then .cell else k
theorem Fd(env:ra)(x:bA):ue env x .free=.cell\/ue env x .free=.free:=by
 unfold ue;split
 . exact .inl rfl
 . exact .inr rfl
theorem vQ:∀{names:List (bA×lT)},(names.map λ(n,k)=>if(k==.free&&env.scope.kind==.function&&env.kindOf n==some .cell)then(n,me)else(n,k)).lookup x=(names.lookup x).map (ue env x)
 |[]=>rfl
 |(n,k)::r=>by
  refine eW bT ?_
  have e:(if(k==.free&&env.scope.kind==.function&&env.kindOf n==some .cell)then(n,me)else(n,k))=(n,ue env n k):=by unfold ue;split<;>rfl
  dsimp only;rw[e,bL,bL,vQ];by_cases h:x=n
  . subst h;rw[beq_self_eq_true];rfl
  . exact eW (beq_eq_false_iff_ne.mpr h) rfl
theorem LK{M:Model}{globals:aO}{qual:bA}{Q:ra->aN->Prop}
 (hQ:∀s',InCallC s s.heap.objs.size (λ_=>none) (cellsFrom (s.heap.objs.size+1) scope.names []) (λ_=>none) s'->
   Q {scope,locals:=s.heap.objs.size,globals,cells:=cellsFrom (s.heap.objs.size+1) scope.names []++cl,qual,func:=none,code:=env.code,frame:=env.frame,builtins:=env.builtins} s'):
 aK M A (newFunctionEnv scope globals cl [] qual none .none (some env)) Q E s:=by
 simp only[newFunctionEnv,Option.isSome_some,if_true];refine ai (tx ?_);refine ai (aa7 _ (λname kind cells=>by induction MO:kind==me using ax<;>simp[MO]) _ _ _ _ ?_)
 have ok:=cellsFrom_ok scope.names (s.heap.push {cls:=.type "dict",data:=.dict #[]}) (s.heap.objs.size+1) [] ⟨λ_ _ hm=>(nomatch hm),pj⟩ (by exact eW (gc ..)<|aT _);rw[gc]at ok;refine eW (show({s with heap:=s.heap.push {cls:=.type "dict",data:=.dict #[]}}:aN).heap.objs.size=s.heap.objs.size+1 from gc ..)<|eW (fC ..) ?_;refine ai ?_;rw[mh];refine ar (ar (hQ _ ?_));exact⟨⟨⟨_,_,rfl⟩,(Rp s.heap (.type "dict")).keeps (qZ _ _),λb o e=>qZ _ _ b o (a_ _ e),aT _⟩,
  λn c hc=>(ok.empty n c (mem_of_lookup hc)).1,ok.apart,λn c hm=>(ok.empty n c hm).2⟩
noncomputable def mP(L D:aO)(j:Nat)(cs cl:List (bA×aO))(O:aO->Option Role)(a:aO):Option Role:=
 if a=L then some .loc else if a=D then some (.own j 0)else match cs.find? (λp=>p.2==a)with
  |some p=>some (.cell p.1)
  |none=>if cl.any (λp=>p.2==a)then none else(O a).map λ_=>.ki
theorem E':∀{aX:List Nat}{fr cs:List Slot},fX fr aX=some cs->cs.length=aX.length/\∀(i:Nat)(s:Slot),cs[i]?=some s->∃(j:Nat)(s0:Slot),aX[i]?=some j/\fr[j]?=some s0/\s0.lend=some s
 |[],fr,cs,h=>sk (P:=λcs=>cs.length=0/\∀(i:Nat)(s:Slot),cs[i]?=some s->∃(j:Nat)(s0:Slot),[][i]?=some j/\fr[j]?=some s0/\s0.lend=some s) h ⟨rfl,λi s h=>nn h⟩
 |c::r,fr,cs,h=>ob h λs0 hs h=>ob h λx h1 h=>om h λxs h2=>xA (E' h2) λe1 e2=>⟨congrArg (·+1) e1,λi s hi=>match i,hi with
  |0,hi=>⟨c,s0,rfl,hs,h1.trans hi⟩
  |i+1,hi=>e2 i s hi⟩
structure An(sc:jD)(dC:jD)(ns iu:List bA)(m:Nat)(aX:List Nat):Prop where
 kind:dC.kind=.function
 nd:iu.Nodup
 len:iu.length=m+aX.length
 own:∀(i:Nat)(x:bA),i<m->iu[i]?=some x->dC.names.lookup x=some .local\/dC.names.lookup x=some .cell
 PM:∀(i:Nat)(x:bA),m<=i->iu[i]?=some x->∃j,aX[i-m]?=some j/\ns[j]?=some x/\dC.names.lookup x=some .free/\(sc.names.lookup x==some .cell||sc.names.lookup x==some .free)=true
 free:∀p∈dC.names,p.2=.free->∃i,m<=i/\iu[i]?=some p.1
 all:∀p∈dC.names,dC.names.lookup p.1=some p.2
 QB:(dC.names.map (·.1)).Nodup
theorem z6{sc:jD}(h:i4 sc dC ns iu m aX=true):An sc dC ns iu m aX:=by
 unfold i4 at h;simp only[bY,decide_eq_true_eq,beq_iff_eq]at h
 (refine xA h ?_;clear h;intro q3;obtain⟨⟨⟨⟨⟨⟨⟨⟨h1,h2⟩,h3⟩,_⟩,h5⟩,h6⟩,h7⟩,h8⟩,h9⟩:=q3;intro _)
 refine⟨h1,h2,h3,λi x hi hx=>?_,λi x hi hx=>?_,λp hp hf=>?_,λp hp=>?_,h9⟩
 . have:=aH.mp h5 x (ck.mpr ⟨i,by refine eW (dH hi) ?_;exact hx⟩)
   simpa using this
 . have oo:i<iu.length:=by
    induction q:decide (i<iu.length)using ax with
    |true=>exact of_decide_eq_true q
    |false=>rw[ba (bu (of_decide_eq_false q))]at hx;exact nn hx
   have hc:i-m<aX.length:=mV hi (h3▸oo)
   have hd:(iu.drop m)[i-m]?=some x:=by refine eW gG<|eL hx ?_;exact congrArg (iu[·]?) (cH hi)
   have:=aH.mp h6 (x,aX[i-m]) (ck.mpr ⟨i-m,by refine iW mD ?_;exact⟨hd,aV hc⟩⟩);simp only[bY,beq_iff_eq]at this;exact⟨_,aV hc,this.1.1,this.1.2,this.2⟩
 . have:=aH.mp h7 p hp
   rw[hf]at this;simp only[bne_self_eq_false,mZ]at this
   (refine xE (ck.mp (gS.mp this)) λj hj=>?_)
   rw[gG]at hj;exact⟨m+j,aP m j,hj⟩
 . have:=aH.mp h8 p hp
   simpa using this
theorem Hy{xq:Slot}(hl:sl.lend=some xq)(q:∀a r,O a=some r->(r=.ki\/∃k,r=.own i k)->O' a=some .ki)(y:cV C G O h i sl ov):cV C G O' h j xq ov/\xq.writable=false:=by
 induction sl using Slot.casesOn with
 |unset=>exact nn hl
 |val d=>cases hl;exact⟨y,rfl⟩
 |ro d=>cases hl;exact⟨y,rfl⟩
 |own t=>cases hl;(refine bS y ?_;clear y;intro v e p);exact⟨⟨v,e,dM.relabel (λa k e=>q a _ e (.inr ⟨k,rfl⟩)) p⟩,rfl⟩
 |bor t=>cases hl;(refine bS y ?_;clear y;intro v e p);exact⟨⟨v,e,dM.relabel (λa k e=>q a _ e (.inl rfl)) p⟩,rfl⟩
theorem TN{PC:List Slot}{od:jX}{iB:ra}(S:An sc.s dC ns iu m aX)(W:bz C G wl s.heap)(F:cL C G O sc ns env fr s.heap)(hs:fX fr aX=some PC)
 (hD:s.heap.get? D=some od)(nD:G.F D=none)(fD:eQ C G D)(oD:O D=none)(ncD:∀(j:Nat)(y:bA),ns[j]?=some y->env.kindOf y≠some .local->env.cells.lookup y≠some D)
 (qY:∀p∈cl,(p.1,ix)∈dC.names/\env.cells.lookup p.1=some p.2)(K4:∀x,(x,ix)∈dC.names->cl.lookup x=env.cells.lookup x)(hL:L=s.heap.objs.size)(FO:cs=cellsFrom (s.heap.objs.size+1) dC.names [])
 (hI:InCallC s L (λ_=>none) cs (λ_=>none) s')(e1:iB.scope=relabel dC env)(e2:iB.locals=L)(e3:iB.globals=env.globals)(e4:iB.cells=cs++cl)(e5:iB.code=env.code)(e6:iB.builtins=env.builtins):
 cL C G (mP L D iu.length cs cl O) ⟨dC,none,lv⟩ iu iB (bD m .unset++PC) s'.heap:=by
 have hk:∀x,iB.kindOf x=(dC.names.lookup x).map (ue env x):=λx=>by
  unfold Env.kindOf;exact eW e1<|vQ
 have keep:=hI.toInCall.keep
 have Cz:Step C G G s s':=by
  (refine u_ (hI.toInCall.same) λh' tk q4=>?_;subst q4)
  exact .grow h' tk keep
 (refine xA (j7 dC.names (s.heap.objs.size+1) S.QB) λcn1 cn2=>?_)
 (refine xA (E' hs) λhlc Z2=>?_)
 have ltL:∀{a:aO}{o:jX},s.heap.get? a=some o->a≠L:=λe=>by exact eW hL<|bx (bb e)
 have LI:∀p∈cs,s.heap.objs.size+1<=p.2:=λp hp=>by
  rw[FO]at hp;exact of_decide_eq_true (aH.mp (fY dC.names (s.heap.objs.size+1)) p hp)
 have VY:∀{a:aO}{o:jX},s.heap.get? a=some o->cs.find? (λp=>p.2==a)=none:=λ{a o} e=>by
  refine jh.mpr λp hp hb=>?_
  have h1:=LI p hp
  have h2:=bb e;rw[beq_iff_eq.mp hb]at h1;exact absurd h2 (cG.mpr (fN h1))
 have Xy:∀p∈cl,∃(i j:Nat)(sl:Slot),m<=i/\iu[i]?=some p.1/\aX[i-m]?=some j/\ns[j]?=some p.1/\fr[j]?=some sl/\env.kindOf p.1≠some .local:=λp hp=>by
  (refine xA (qY p hp) λh1 h2=>?_)
  (refine bS (S.free _ h1 rfl) λi h3 h4=>?_)
  (refine oB (S.PM i _ h3 h4) λj h5 h6 h7 h8=>?_)
  have oo:j<fr.length:=by
   refine eW F.len ?_;induction q:decide (j<ns.length)using ax with
   |true=>exact of_decide_eq_true q
   |false=>rw[ba (bu (of_decide_eq_false q))]at h6;exact nn h6
  refine⟨i,j,_,h3,h4,h5,h6,aV oo,λe=>?_⟩;rcases F.cl _ h8 with q|q<;>rw[q]at e<;>cases e
 have aaP:∀{b:aO},cl.any (λp=>p.2==b)=true->(O b=none\/∃x,O b=some (.cell x))/\∃o,s.heap.get? b=some o:=λ{b} hb=>by
  (refine bS (iy.mp hb) λp hp Z9=>?_)
  (refine fS (Xy p hp) λi j sl _ _ _ h6 h7 h8=>?_)
  (refine m_ (F.p9 j _ sl h6 h7 h8) λ_ c ov q1 q6=>?_;obtain⟨oc,q2,_⟩:=q6;intro q5;refine jN q5 ?_;clear q5;intro _ q4 _)
  rw[(qY p hp).2]at q1;cases q1;rw[beq_iff_eq.mp Z9]at q4 q2;refine⟨?_,oc,q2⟩;split at q4
  . exact .inr ⟨_,q4⟩
  . exact .inl q4
 have aaQ:∀{b:aO},cl.any (λp=>p.2==b)=true->b≠D:=λ{b} hb e=>by
  (refine bS (iy.mp hb) λp hp Z9=>?_)
  (refine fS (Xy p hp) λi j sl _ _ _ h6 h7 h8=>?_)
  exact ncD j _ h6 h8<|eW ((qY p hp).2)<|eW (beq_iff_eq.mp Z9)<|eW e rfl
 have oO:∀{a:aO}{r:Role},O a=some r->(∀x,r≠.cell x)->mP L D iu.length cs cl O a=some .ki:=λ{a r} e n=>by
  (refine mF (F.iK a r e) λ_ _ o ho=>?_)
  unfold mP;rw[if_neg (ltL ho),if_neg (λq=>by rw[q,oD]at e;exact nn e),VY ho];dsimp only;rw[if_neg λq=>?_,e]
  . rfl
  . rcases(aaP q).1 with q|⟨x,q⟩
    . rw[e]at q;exact nn q.symm
    . rw[e]at q;cases q;exact n x rfl
 refine⟨by refine eW e1 ?_;exact S.kind,by exact eW e3<|F.glob,by exact eW e6<|F.bi,S.nd,by exact eW aJ<|eW gR<|eW hlc<|eW S.len rfl,λa r e=>?_,λx e=>?_,λx e=>?_,?_,?_,λi x sl hx eE QM=>?_,λnm h=>(nomatch h),?_,λh=>(nomatch h)⟩
 .
  unfold mP at e;split at e
  . rename_i ha
    subst ha
    (refine j8 (hI.toInCall.ns) λo _ _ ho _=>?_)
    rw[hL]at ho⊢;exact⟨gM W,gr W,o,ho⟩
  . split at e
    . rename_i ha
      subst ha;exact⟨nD,fD,_,keep _ _ hD⟩
    . split at e
      . rename_i p hp
        have Ys:=iE hp
        have O_:=xw hp;rw[beq_iff_eq]at O_
        have h1:=LI p Ys
        have yE:s.heap.get? a=none:=by
         induction q:s.heap.get? a using aA with
         |none=>rfl
         |some o=>have h2:=bb q;rw[O_]at h1;exact absurd h2 (cG.mpr (fN h1))
        (refine bS (hI.cell p.1 p.2 (lookup_mem (by refine eW FO ?_;exact cn1) Ys)) λo ho _=>?_)
        exact⟨kg W yE,gx W yE,o,O_▸ho⟩
      . split at e
        . exact nn e
        . (refine bS (c8.mp e) λr' e' _=>?_)
          (refine mF (F.iK a r' e') λh1 h2 o ho=>?_)
          exact⟨h1,h2,o,keep _ _ ho⟩
 . exact eW (hk ..)<|eW e rfl
 . refine eW (hk ..) ?_
   rcases iO.mp e with q|q
   . exact eW (beq_iff_eq.mp q)<|.inl rfl
   . refine eW (beq_iff_eq.mp q) ?_
     show some (ue env x .free)=_\/some (ue env x .free)=_;exact(Fd env x).imp (congrArg some) (congrArg some)
 . refine eW e2 ?_;unfold mP;exact eW (if_pos rfl) rfl
 . refine⟨_,e2▸hI.toInCall.ns,λi x sl hx eE hl=>?_⟩
   have hi:i<m:=by
    induction q:decide (i<m)using ax with
    |true=>exact of_decide_eq_true q
    |false=>
     (refine oB (S.PM i x (bu (of_decide_eq_false q)) hx) λj _ _ h3 _=>?_)
     rw[hk,h3]at hl;simp only[Mv,qj]at hl;unfold ue at hl;split at hl<;>cases hl
   rw[ei (by simpa using hi),oh,if_pos hi]at eE;cases eE;rfl
 . by_cases hi:i<m
   . have MO:dC.names.lookup x=some .cell:=by
      rcases S.own i x hi hx with q|q
      . rw[hk,q]at QM;exact absurd rfl QM
      . exact q
     (refine xE (iM.mp (EK (x:=x) dC.names (s.heap.objs.size+1) [] (.inl MO))) λc hc=>?_)
     rw[<-FO]at hc
     have kR:=mem_of_lookup hc
     have h1:=LI _ kR
     have yE:s.heap.get? c=none:=by
      induction q:s.heap.get? c using aA with
      |none=>rfl
      |some o=>have h2:=bb q;exact absurd h2 (cG.mpr (fN h1))
     rw[ei (by simpa using hi),oh,if_pos hi]at eE;cases eE
     have hkk:iB.kindOf x=some .cell:=by exact eW (hk ..)<|eW MO rfl
     refine⟨.inl hkk,c,none,by refine eW e4<|eW lookup_append<|eW hc ?_;rfl,hI.cell x c hc,rfl,?_,gx W yE,λ_=>hkk⟩;unfold mP;rw[if_neg (λe=>by rw[e,hL]at h1;exact absurd (Nat.lt_of_succ_le h1) (b9 _)),if_neg (λe=>by rw[e,hD]at yE;exact nn yE.symm)];induction hq:cs.find? (λp=>p.2==c)using aA with
     |some p=>
      have Ys:=iE hq
      have O_:=xw hq;obtain⟨n,c'⟩:=p;rw[beq_iff_eq]at O_;dsimp only at O_;subst O_
      have:=Mq hI.apart Ys kR;subst this;rfl
     |none=>
      have:=jh.mp hq _ kR;simp at this
   . (refine oB (S.PM i x (bu hi) hx) λj h1 h2 h3 h4=>?_)
     rw[hX (by simpa using hi),gR]at eE
     (refine cO (Z2 _ _ eE) λj' s0 q1 q2 q3=>?_)
     rw[h1]at q1;cases q1
     have uh:env.kindOf x≠some .local:=λe=>by rcases F.cl x h4 with q|q<;>rw[q]at e<;>cases e
     (refine fo (F.p9 j x s0 h2 q2 uh) λsO c ov r1 r2 r3 r4 r5 r6=>?_)
     have kR:(x,ix)∈dC.names:=mem_of_lookup h3
     have hcx:cl.lookup x=some c:=(K4 x kR).trans r1
     have WW:cs.lookup x=none:=by
      induction q:cs.lookup x using aA with
      |none=>rfl
      |some c'=>
       have hm2:=cn2 _ (FO▸mem_of_lookup q)
       have:=lookup_mem S.QB hm2;dsimp only at this;rw[h3]at this;cases this
     (refine xA (Hy (j:=i) (O':=mP L D iu.length cs cl O) q3 (λa r e hr=>oO e λy q=>by
       rcases hr with hr|⟨k,hr⟩<;>rw[hr]at q<;>cases q) r3) λT hw=>?_)
     (refine bS r2 ?_;clear r2;intro oc w1 w2)
     have WV:∃p∈cl,p.2=c:=⟨_,mem_of_lookup hcx,rfl⟩
     have WZ:cl.any (λp=>p.2==c)=true:=by
      (refine bS WV ?_;clear WV;intro p hp hpc)
      exact iy.mpr ⟨p,hp,by exact eW hpc<|beq_self_eq_true c⟩
     have W_:mP L D iu.length cs cl O c=none:=by
      unfold mP;refine eW (if_neg (ltL w1))<|eW (if_neg (aaQ WZ))<|eW (VY w1) ?_;dsimp only;exact eW (if_pos WZ) rfl
     refine⟨?_,c,ov,by refine eW e4<|eW lookup_append<|eW WW<|eW hcx ?_;rfl,⟨oc,keep _ _ w1,w2⟩,T.step Cz,by exact eW hw<|eW (if_neg ay)<|W_,r5,λq=>by rw[hw]at q;exact ff q⟩;refine eW (hk ..)<|eW h3 ?_
     show some (ue env x .free)=_\/some (ue env x .free)=_;exact(Fd env x).imp (congrArg some) (congrArg some)
 . exact eW e5<|F.code
end
section
variable {G0:Gh}
structure PV(C:Cx)(G:Gh)(O:aO->Option Role)(sc:Sc)(ns:List bA)(env:ra)(s:aN)(fr:List Slot)(wl:WL)(s':aN):Prop where
 x:bX C G G O O s s'
 w:bz C G wl s'.heap
 f:cL C G O sc ns env fr s'.heap
 m:∀a r,O a=some r->(r=.ki\/∃i k,r=.own i k)->c7 s.heap s'.heap a
theorem PV.after(X:bX C G G O O s s')(m:∀a r,O a=some r->(r=.ki\/∃i k,r=.own i k)->c7 s.heap s'.heap a)(p:PV C G O sc ns env s' cJ wl qo):PV C G O sc ns env s cJ wl qo:=
 ⟨X.trans p.x,p.w,p.f,λa r e hr o ho=>p.m a r e hr o (m a r e hr o ho)⟩
theorem C0(is:List Nat):∀(ts:List (aB->Sem Unit))(vs:List aB)(gU:List Slot)(fr cJ:List Slot)(s:aN),bz C G wl s.heap->cL C G O sc ns env fr s.heap->
 eJ C env ns is ts->Vals C G O s.heap is vs gU->oj fr is gU=some cJ->aK C.M A (assignInOrder ts vs) (λ_ s'=>PV C G O sc ns env s cJ wl s') E s:=by
 induction is with
 |nil=>
  intro ts vs gU fr cJ s W F hT hV q;induction ts using bP with
  |cons _ _=>exact hT.elim
  |nil=>
   induction vs using bP with
   |cons _ _=>exact hV.elim
   |nil=>
    induction gU using bP with
    |cons _ _=>exact hV.elim
    |nil=>cases q;exact ar ⟨bX.refl C G O s,W,F,λ_ _ _ _ _ e=>e⟩
 |cons i is ih=>
  intro ts vs gU fr cJ s W F hT hV q;induction ts using bP with
  |nil=>exact hT.elim
  |cons t ts=>
   induction vs using bP with
   |nil=>exact hV.elim
   |cons v vs=>
    induction gU using bP with
    |nil=>exact hV.elim
    |cons sl gU=>
     (refine xA hT ?_;clear hT;intro q1;obtain⟨x,hx,ht⟩:=q1;intro hT')
     (refine bS (jd.mp q) λf_ q1 q2=>?_)
     show aK C.M A (do holding vs (t v);assignInOrder ts vs) _ _ _;refine ai (bM (ht (iZ (bX.refl C G O s) W F hx q1 hV.2.1 hV.1 λs' X' W' F' hm=>?_)));exact dQ (ih ts vs gU f_ cJ s' W' F' hT' (hV.2.2.move hm) q2) (λ_ qo p=>p.after X' hm) λ_ _ q=>q
theorem CP{x1}(hh:A.handled=none)(W:bz C G wl s.heap)(F:cL C G O sc ns env fr s.heap)
 (R:Rep C G v (.tup ds))(ht:cY ns (.Tuple es x1 p) is=true)(hs:ez fr is ds=some cJ):aK C.M A (assign (.Tuple es x1 p) env v) (λ_ s'=>PV C G O sc ns env s cJ wl s') ee s:=by
 refine jN (ka (C:=C) (env:=env) (g_ ht).2) λT1 T2 T3=>tupI W R λa vs n h1 r1=>?_;rw[nq]at hs
 have hl:=oI hs;rw[aj]at hl
 have hrl:=r1.length;refine nT (items:=vs.toArray) hh ⟨_,h1,rfl,n,rfl⟩ (by refine eW T3<|eW cj ?_;lia) T2 λh' hx=>?_
 have k:∀b o,s.heap.get? b=some o->h'.get? b=some o:=λb o e=>hx b o (bx (bb e)) e
 have x1:Step C G G s {s with heap:=h'}:=.grow h' s.toks k;exact cX (C0 is _ _ _ fr cJ _ (W.grow k) (F.step x1) T1 (za hl r1) hs) λ_ qo p=>p.after x1.o λa r _ _ o e=>k a o e
theorem wU{t:af}(hh:A.handled=none)(W:bz C G wl s.heap)(F:cL C G O sc ns env fr s.heap)
 (R:Rep C G v d)(ht:cY ns t is=true)(hs:c6 fr is d=some cJ):aK C.M A (assign t env v) (λ_ s'=>PV C G O sc ns env s cJ wl s') ee s:=by
 revert hs
 refine ve ht (λx p i hx hs=>?_) λes n p ht hs=>?_
 . exact assign_Name (iZ (bX.refl C G O s) W F hx hs rfl ⟨v,rfl,R⟩ λs' X' W' F' m=>⟨X',W',F',m⟩)
 . have h2:=(g_ ht).1
   revert h2 hs ht
   exact match is with
   |[]=>λ_ _ h2=>absurd h2 (IC 1)
   |[_]=>λ_ _ h2=>absurd h2 (qU 1)
   |_::_::_=>λht hs _=>ob hs λxs h1 hs=>(FV.CX (P:=λd=>Rep C G v d->_) h1 λR=>CP hh W F R ht hs) R
theorem cL.outside(F:cL C G O sc ns env fr h)(hO:O a=some (.own j κ))(hj:ns.length<=j)(k:∀b,b≠a->c7 h h' b)(al:∃o,h'.get? a=some o):cL C G O sc ns env fr h':=by
 have nl:env.locals≠a:=λq=>by have:=F.lN;rw[q,hO]at this;cases this
 have lt:∀{i:Nat}{x:bA},ns[i]?=some x->i<ns.length:=λ{i x} hx=>by
  induction q:decide (i<ns.length)using ax with
  |true=>exact of_decide_eq_true q
  |false=>rw[ba (bu (of_decide_eq_false q))]at hx;exact nn hx
 have other:∀{i:Nat}{x:bA}{sl:Slot}{ov:Option aB},ns[i]?=some x->cV C G O h i sl ov->cV C G O h' i sl ov:=λ{i x sl ov} hx S=>by
  refine S.move λb r hb hk=>⟨hb,k b λq=>?_⟩;subst q;rw[hO]at hb;cases hb;rcases hk with hk|⟨k,hk⟩
  . exact Role.noConfusion hk
  . cases hk;exact absurd (lt hx) (cG.mpr hj)
 refine⟨F.fn,F.glob,F.bi,F.nodup,F.len,λb r e=>?_,F.gl,F.cl,F.lN,?_,λi y sl hy eE hk=>?_,F.iS,F.code,F.ro⟩
 . (refine mF (F.iK b r e) λh1 h2 o h3=>?_)
   refine⟨h1,h2,?_⟩;by_cases q:b=a
   . subst q;exact al
   . exact⟨o,k b q _ h3⟩
 . (refine bS (F.loc) λm hm q=>?_)
   exact⟨m,hm.at' (k _ nl),λi y sl hy eE hk=>other hy (q i y sl hy eE hk)⟩
 . (refine fo (F.p9 i y sl hy eE hk) λsO c ov e1 q2=>?_;obtain⟨oc,e2,Lz⟩:=q2;intro e3 e4 e5 e6)
   have hc:c≠a:=λq=>by
    rw[q,hO]at e4;split at e4<;>cases e4
   exact⟨sO,c,ov,e1,⟨oc,k c hc _ e2,Lz⟩,other hy e3,e4,e5,e6⟩
def PG(C:Cx)(G:Gh)(O:aO->Option Role)(sc:Sc)(ns:List bA)(env:ra)(D:aO)(s:aN)(fr:List Slot)(acc:List FV)(wl:WL)(s':aN):Prop:=
 ∃G',bX C G G' O O s s'/\bz C G' wl s'.heap/\cL C G' O sc ns env fr s'.heap/\dI C G' O s'.heap (some (.own ns.length 0)) (.ref D) (.list acc)
noncomputable def mQ(elt:af)(gens:List cR)(scope:jD)(pos:dK)(d:Nat)(acc:aB)(env:ra):Sem Unit:=
 match gens[d]?with
 |some g'=>do
  let x<-eval g'.iter env
  standAt g'.iter.pos
  let x<-if g'.is_async !=0 then foldedIterable g'.iter x else foldedSetIterable g'.iter env x
  let _<-runOwn (.compStart (.ListComp elt gens scope pos) d (<-holding [x] (if g'.is_async !=0 then asyncIter x else pyIter x)) acc env) env
 |none=>do let _<-call (.builtin "list.append") [acc,<-eval elt env]
def Ip(C:Cx)(bp:my)(k:Nat)(sc:Sc)(ns:List bA)(elt:af)(gens:List cR)(scope:jD)(pos:dK)(d:Nat)(g:IG):Prop:=
 ∀(G:Gh)(O:aO->Option Role)(env:ra)(A:fF)(s:aN)(fr:List Slot)(acc:List FV)(wl:WL)(cJ:List Slot)(lQ:List FV)(bQ:WL)(D:aO),HW bp g fr acc wl=some (cJ,lQ,bQ)->lQ.length<=2^20->Here C G O sc ns env fr wl k A s->
  dI C G O s.heap (some (.own ns.length 0)) (.ref D) (.list acc)->aK C.M A (mQ elt gens scope pos d (.ref D) env) (λ_ s'=>PG C G O sc ns env D s cJ lQ bQ s') ee s
theorem Tv{pos:dK}{d:Nat}{a:IE}(hd:gens[d]?=none)(ha:dS C bp k sc ns elt a):Ip C bp k sc ns elt gens scope pos d (.emit a):=λG O env A s fr acc wl cJ lQ bQ D q hb H R=>by
 rw[wB]at q
 revert hb
 refine f9 q λy w1 q1 q=>MM q λd0 q2 hb=>?_;delta mQ;refine eW hd ?_;refine ai (ha.run H q1 λv aM G1 x1 H1 R1=>fA (lu (R.step x1)) λh1 h2 h3 h=>gg h λvs n h4 h5=>?_);replace R1:Rep C G1 v d0:=eg (P:=λy=>cE C G1 O s.heap aM.heap v y->_) q2 (λR=>R) R1
 have hlen:vs.size=acc.length:=bC.symm.trans h5.length;rw[aJ]at hb;refine ai (xd iC ⟨_,h4,rfl⟩ lU (lF _ _) (jc D vs n v (by refine eW hlen<|eW dp ?_;lia)) ⟨h4,xE (rm (f:=λz=>z.push v) h4) λn' h6=>?_⟩)
 have kk:=eH (cA aM.heap D (o_ λz=>z.push v));refine ar ⟨G1,x1.o.Kq (.inr ⟨_,h1,nofun⟩) kk ⟨_,h6⟩,H1.W.loose h3 h2 kk,H1.F.outside h1 (aT _) kk ⟨_,h6⟩,D,rfl,h1,h2,h3,_,n',h6,?_⟩;exact eW mE<|h5.append (.one R1)
theorem Bl:∀l:List af,PB C G s b wl false s'->aK C.M A (forIn l false λc r=>if r=true then do let ok<-isTrue c env (eval c env);pure (fh ok)else pure (fh r)) (PB C G s b wl) ee s'
 |[],h=>ar h
 |e::l,h=>by
  rw[je,if_neg ay];exact ai (ar (Bl l h))
theorem NC(L:fO (dS C bp k sc ns) ifs il):∀(G:Gh)(O:aO->Option Role)(env:ra)(A:fF)(s:aN)(fr:List Slot)(wl:WL)(b:Bool)(bQ:WL),fI bp il fr wl=some (b,bQ)->Here C G O sc ns env fr wl k A s->
 aK C.M A (forIn ifs true λc r=>if r=true then do let ok<-isTrue c env (eval c env);pure (fh ok)else pure (fh r)) (PB C G s b bQ) ee s:=
 L.ind (λG O env A s fr wl b bQ q H=>sp (P:=λb bQ=>aK C.M A _ (PB C G s b bQ) ee s) q (ar ⟨rfl,G,.refl C G s,H.W⟩)) λe es a il La _ ih G O env A s fr wl b bQ q H=>by
  rw[je,if_pos rfl];exact f9 (nM.symm.trans q) λt w1 q1 q2=>ai (ai (La.C5 H q1 λaM G1 x1 H1=>ar (bk (b:=t) q2 (λq2=>cX (ih G1 O env A aM fr w1 b bQ q2 H1) λr b0 p=>p.after x1)
   λq2=>sp (P:=λb bQ=>aK C.M A _ (PB C G s b bQ) ee aM) q2 (Bl es ⟨rfl,G1,x1,H1.W⟩))))
theorem B8{t:af}{pos:dK}{d:Nat}{i acc:aB}(hg:gens[d]?=some ⟨t,it,ifs,0⟩)(ha:∀g∈gens,g.is_async=0):
 compTurn (.ListComp elt gens scope pos) d i acc env=(standAt it.pos>>=λ_=>pyNext i>>=λr=>match r with
  |none=>pure (.done .next)
  |some v=>letOwnedTupleGo t i v>>=λ_=>assign t env v>>=λ_=>
   (forIn ifs true λc r=>if r=true then do let ok<-isTrue c env (eval c env);pure (fh ok)else pure (fh r))>>=λok=>
   (if ok=true then mQ elt gens scope pos (d+1) acc env else pure ())>>=λ_=>again (.compLoop (.ListComp elt gens scope pos) d i acc env)):=by
 delta compTurn mQ;simp only[hg];refine congrArg (standAt it.pos>>=·) (funext λ_=>congrArg (pyNext i>>=·) (funext λr=>?_));induction r using aA with
 |none=>rfl
 |some v=>
  refine congrArg (letOwnedTupleGo t i v>>=·) (funext λ_=>congrArg (assign t env v>>=·) (funext λ_=>congrArg (forIn ifs true _>>=·) (funext λok=>?_)));induction ok using ax with
  |false=>rfl
  |true=>
   simp only[if_true];induction q:gens[d+1]?using aA with
   |none=>rfl
   |some g'=>
    have:=ha g' (aF q);obtain⟨t',it',adn,n⟩:=g';dsimp only at this;subst this;simp only[bne_self_eq_false,ey,if_false,bind_assoc,pure_bind]
end
section
variable {G0:Gh}
theorem rG(I:lJ C G s.heap a ds)(h:Q (.ref a) s):aK C.M A (pyIter (.ref a)) Q E s:=by
 rcases I with⟨l,vs,n,i,h1,h2,h4⟩|⟨l,vs,n,i,h1,h2,h4⟩|⟨y,left,st,h1,h2⟩
 . exact wpAny_pyIter_listiter h2 h
 . exact wpAny_pyIter_tupleiter h2 h
 . exact wpAny_pyIter_rangeiter h1 h
theorem AQ{t:af}{pos:dK}{d:Nat}{i acc:aB}{R:Result->aN->Prop}(hg:gens[d]?=some ⟨t,it,ifs,0⟩)
 (h0:codeAny C.M A (.compLoop (.ListComp elt gens scope pos) d i acc env) R s)
 (h:aK C.M A (pyIter i) (λi' s'=>codeAny C.M A (.compLoop (.ListComp elt gens scope pos) d i' acc env) R s') (notedBy C.M A env λx s'=>R (.error x) s') s):
 codeAny C.M A (.compStart (.ListComp elt gens scope pos) d i acc env) R s:=by
 refine Cq ?_
 show aK _ _ ((compStart (.ListComp elt gens scope pos) d i acc env).onRaise (λx=>do noteFrame x env;standAt theWindowsPlace)) _ _ s;refine wpAny_notedAt ?_;unfold compStart
 have hc:(clausesOf (.ListComp elt gens scope pos))[d]?=some ⟨t,it,ifs,0⟩:=hg;simp only[hc]
 show aK _ _ (ask>>=_) _ _ s;refine ai (eG (wpAny_ite ?_));split
 . first
    |exact ai (ar (ar (CK rfl h0)))
    |exact ar (CK rfl h0)
 . first
    |exact ai (xc (ai (cc (ai (dQ h (λit' s' h'=>ar (CK rfl h')) λ_ _ x=>x)))))
    |(refine ai (xc ?_);show aK _ _ (standAt it.pos>>=_) _ _ s;exact ai (cc (ai (dQ h (λit' s' h'=>ar (CK rfl h')) λ_ _ x=>x))))
theorem nA{σ:Type}{f:σ->FV->Option σ}{m:σ->Nat}(hf:∀a x b,f a x=some b->m a<=m b):∀{ds:List FV}{a b:σ},kh f ds a=some b->m a<=m b
 |[],_,_,q=>ag q▸aT _
 |d::ds,a,b,q=>ob q λc h1 h2=>ak (hf _ _ _ h1) (nA hf h2)
theorem BZ:∀{g:IG}{fr:List Slot}{acc:List FV}{wl:WL}{x:List Slot×List FV×WL},HW bp g fr acc wl=some x->acc.length<=x.2.1.length
 |.emit e,fr,acc,wl,x,q=>f9 (wB.symm.trans q) λy w1 _ q=>om q λd _=>by simp
 |.gen it f7 ifs rest,fr,acc,wl,x,q=>f9 (z5.symm.trans q) λy w1 _ q=>ob q λvs _ q3=>nA (m:=λa=>a.2.1.length) (λa v b q=>ob q λf_ _ q=>f9 q λt w2 _ q5=>se q5 (λ_ q=>BZ q) λ_ q=>ag q▸aT _) q3
def AG(bp:my)(f7:List Nat)(il:IL)(g:IG)(a:List Slot×List FV×WL)(v:FV):Option (List Slot×List FV×WL):=
 (c6 a.1 f7 v).bind λf_=>(fI bp il f_ a.2.2).bind λt=>if t.1 then HW bp g f_ a.2.1 t.2 else some (f_,a.2.1,t.2)
theorem CR{g:IG}{a b:List Slot×List FV×WL}{v:FV}(q:AG bp f7 il g a v=some b):a.2.1.length<=b.2.1.length:=
 ob q λf_ _ q=>f9 q λt w2 _ q5=>se q5 (λ_ q=>BZ q) λ_ q=>ag q▸aT _
def Q'(C:Cx)(Gb:Gh)(O:aO->Option Role)(sc:Sc)(ns:List bA)(env:ra)(D:aO)(sb:aN)(run:Gh->aN->Nat->List Slot×List FV×WL->Prop)(n:Nat)(s':aN):Prop:=
 ∃G' gX tp ji,bX C Gb G' O O sb s'/\bz C G' ji s'.heap/\cL C G' O sc ns env gX s'.heap/\dI C G' O s'.heap (some (.own ns.length 0)) (.ref D) (.list tp)/\run G' s' n (gX,tp,ji)
theorem K_{t:af}{pos:dK}{d:Nat}{g:IG}(hg:gens[d]?=some ⟨t,it,ifs,0⟩)(IM:∀g∈gens,g.is_async=0)
 (ht:cY ns t f7=true)(L:fO (dS C bp k sc ns) ifs il)(hr:Ip C bp k sc ns elt gens scope pos (d+1) g)
 {Gb:Gh}{lQ:List FV}(q:kh (AG bp f7 il g) ds (fr,acc,wl)=some (cJ,lQ,bQ))(hb:lQ.length<=2^20)
 (X:bX C Gb G O O sb s)(n0:sb.heap.get? ia=none)(H:Here C G O sc ns env fr wl k A s)(R:dI C G O s.heap (some (.own ns.length 0)) (.ref D) (.list acc))(I:lJ C G s.heap ia ds)(Lo:Loose C G O s.heap ia)
 (nc:∀(j:Nat)(y:bA),ns[j]?=some y->env.kindOf y≠some .local->env.cells.lookup y≠some ia):
 codeAny C.M A (.compLoop (.ListComp elt gens scope pos) d (.ref ia) (.ref D) env) (λr s'=>∃f,r=.ok f/\PG C Gb O sc ns env D sb cJ lQ bQ s') s:=by
 refine codeAny_loop rfl (Q' C Gb O sc ns env D sb λG' s' n a=>∃rest,n=rest.length/\lJ C G' s'.heap ia rest/\Loose C G' O s'.heap ia/\kh (AG bp f7 il g) rest a=some (cJ,lQ,bQ)) (λn s' hI=>?_) ds.length ⟨G,fr,acc,wl,X,H.W,H.F,R,ds,rfl,I,Lo,q⟩;refine jE hI λG' gX tp ji h=>kI h λX W F R h=>oB h λrest hn I Lo q=>?_;subst hn
 show aK _ A ((compTurn (.ListComp elt gens scope pos) d (.ref ia) (.ref D) env).onRaise (λx=>do noteFrame x env;theTreesLotGoes x)) _ _ s';refine wpAny_noted ?_;refine eW (B8 hg IM) ?_;refine ai (cc (ai ?_));refine fA (lu R) λYA Xb hDF h=>gg h λvs n Xc hDr=>?_
 have IP:D≠ia:=λe=>by rw[e,Lo.own]at YA;exact nn YA
 induction rest using bP with
 |nil=>
  exact xp q<|zI H.room.handled X n0 nc W F I Lo λs1 X W F k=>ar ⟨_,rfl,G',X,W,F,D,rfl,YA,Xb,hDF,vs,n,k _ IP _ Xc,hDr⟩
 |cons v0 rest=>
  refine ob q λy q1 q2=>ob q1 λwy q3 q=>f9 q λtb U2 q4 q5=>?_
  have hb3:y.2.1.length<=lQ.length:=nA (m:=λa=>a.2.1.length) (λa v b q=>CR q) q2;refine vY X n0 nc W F I Lo λv s1 Rv nx=>?_
  have R1:dI C G' O s1.heap (some (.own ns.length 0)) (.ref D) (.list tp):=⟨D,rfl,YA,Xb,hDF,vs,n,nx.k _ IP _ Xc,hDr⟩;refine ai (KC (λa e=>by cases e;exact nx.I.cls) (ai ?_));refine cX (wU (s:=s1) H.room.handled nx.W nx.F Rv ht q3) λ_ et p=>ai ?_
  have R3:dI C G' O et.heap (some (.own ns.length 0)) (.ref D) (.list tp):=R1.at_ λa e=>p.m a _ e (.inr ⟨_,_,rfl⟩);refine cX (NC L G' O env A et wy ji tb U2 q4 ⟨H.base,H.room,p.w,p.f⟩) λok lM h=>RJ h λh1 G4 x4 W4=>ai ?_;subst h1
  have X4:=p.x.trans x4.o
  have fin:∀{G5:Gh}{CY:aN}{z:List Slot×List FV×WL},z=y->bX C G' G5 O O s1 CY->bz C G5 z.2.2 CY.heap->cL C G5 O sc ns env z.1 CY.heap->dI C G5 O CY.heap (some (.own ns.length 0)) (.ref D) (.list z.2.1)->
   ∃m,m<(v0::rest).length/\Q' C Gb O sc ns env D sb (λG' s' n a=>∃rest,n=rest.length/\lJ C G' s'.heap ia rest/\Loose C G' O s'.heap ia/\kh (AG bp f7 il g) rest a=some (cJ,lQ,bQ)) m CY:=λe X5 W5 F5 R5=>
   nx.next X5 λX I L=>⟨rest.length,bg _,_,_,_,_,X,W5,F5,R5,rest,rfl,I,L,e▸q2⟩
  exact match ok,q5 with
  |false,q5=>ar (ar ⟨rfl,fin (ag q5) X4 W4 (p.f.step x4) (R3.step x4)⟩)
  |true,q5=>cX (hr G4 O env A lM wy tp U2 y.1 y.2.1 y.2.2 D q5 (ak hb3 hb) ⟨H.base,H.room,W4,p.f.step x4⟩ (R3.step x4)) λ_ CY h=>oB h λG5 X5 W5 F5 R5=>ar ⟨rfl,fin rfl (X4.trans X5) W5 F5 R5⟩
theorem Xk{t:af}{pos:dK}{d:Nat}{a:IE}{g:IG}(hg:gens[d]?=some ⟨t,it,ifs,0⟩)(IM:∀g∈gens,g.is_async=0)
 (hi:dS C bp k sc ns it a)(hn:gV it=true)(ht:cY ns t f7=true)(L:fO (dS C bp k sc ns) ifs il)(hr:Ip C bp k sc ns elt gens scope pos (d+1) g):Ip C bp k sc ns elt gens scope pos d (.gen a f7 il g):=λG O env A s fr acc wl cJ lQ bQ D q hb H R=>by
 rw[z5]at q;refine f9 q λy w1 q1 q=>ob q λds q2 q3=>ob q2 λd0 h1 q2=>?_;unfold mQ;refine eW hg ?_;refine ai (hi.run H q1 λv aM G1 x1 H1 R1=>ai (cc ?_));replace R1:Rep C G1 v d0:=eg (P:=λy=>cE C G1 O s.heap aM.heap v y->_) h1 (λR=>R) R1
 have W1:=H1.W
 have F1:=H1.F
 have Rs:=R.step x1;simp only[bne_self_eq_false,ey,if_false];refine eW (zZ hn v) ?_;refine ai (ar (ai (bM (zH W1 R1 q2 λo hf I=>ai (wpAny_runOwn ?_)))))
 have x2:Step C G1 G1 aM {aM with heap:=aM.heap.push o}:=.grow _ aM.toks (cQ o)
 have nc:=F1.mS (a:=aM.heap.objs.size) eI;refine xA (yv F1 W1 x1 hf) λn0 L0=>?_
 have H2:Here C G1 O sc ns env fr w1 k A {aM with heap:=aM.heap.push o}:=⟨H.base,H.room,W1.grow (cQ o),F1.step x2⟩
 have go:codeAny C.M A (.compLoop (.ListComp elt gens scope pos) d (.ref aM.heap.objs.size) (.ref D) env) (λr s'=>∃f,r=.ok f/\PG C G O sc ns env D s cJ lQ bQ s') {aM with heap:=aM.heap.push o}:=
  K_ hg IM ht L hr q3 hb (x1.trans x2).o n0 H2 (Rs.step x2) I L0 nc
 have go':=kH go (R':=λr s'=>match r with|.ok f=>aK C.M A (pure ()) (λ_ s'=>PG C G O sc ns env D s cJ lQ bQ s') ee s'|.error e=>cameBackBy C.M A env ee e s') λr s' ⟨f,e,p⟩=>by
  subst e;exact ar p
 exact AQ hg go' (rG I go')
end
section
variable {G0:Gh}
structure MI(C:Cx)(G:Gh)(s:aN)(wl:WL)(D L:aO)(G':Gh)(s':aN):Prop where
 x:Step C G G' s s'
 w:bz C G' wl s'.heap
 nD:s.heap.get? D=none
 nL:s.heap.get? L=none
 ne:D≠L
 fL:G'.F L=none
 yI:eQ C G' L
 ns:∃m,s'.heap.Ns L m
 fD:G'.F D=none
 wz:eQ C G' D
theorem HI(I:lJ C G h a ds):∃o,h.get? a=some o/\∀v,o.data≠.cell v:=by
 exact I.elim (λI=>j3 I λl vs n i _ h2 _=>dT h2 λo h2 h3 h5=>⟨o,h2,λv e=>uZ (h5.symm.trans e)⟩) λI=>I.elim (λI=>j3 I λl vs n i _ h2 _=>dT h2 λo h2 h3 h5=>⟨o,h2,λv e=>uZ (h5.symm.trans e)⟩)
  λI=>j8 I λy left st h1 h2=>⟨_,h1,λv e=>uZ e⟩
theorem wK{g0:cR}{zz:Sem aB}{use:Option (aB->Sem Unit)}{PC:List Slot}{od:jX}{ia':IE}{d0:FV}{w1 w2:WL}
 {P:Gh->eu->aO->aO->Prop}(qY:clausesOf e=g0::gs)(hg0:g0.iter=it)(hn:gV it=true)(Ar:sc.lv=lv+1)(S:An sc.s dC ns iu m aX)(hi:dS C bp k sc ns it ia')
 (Ti:∀{s:aN}{Q:aB->aN->Prop},Q (.ref s.heap.objs.size) {s with heap:=s.heap.push od}->aK C.M A zz Q ee s)(hod:od.isFreed=false)
 (q1:ev bp ia' fr wl=some (.fv d0,w1))(q2:items (.fv d0)=some ds)(q3:fX fr aX=some PC)(H:Here C G O sc ns env fr wl k A s)
 (loop:∀G1(O':aO->Option Role) iB lM D ia L,Here C G1 O' ⟨dC,none,lv⟩ iu iB (bD m .unset++PC) w1 k A lM->O' D=some (.own iu.length 0)->lM.heap.get? D=some od->lJ C G1 lM.heap ia ds->Loose C G1 O' lM.heap ia->
   (∀(j:Nat)(y:bA),iu[j]?=some y->iB.kindOf y≠some .local->iB.cells.lookup y≠some ia)->bX C G G1 O' O' s lM->s.heap.get? ia=none->s.heap.get? D=none->iB.locals=L->D≠L->(D==sysModules)=false->
   codeAny C.M A (.compStart e 0 (.ref ia) (.ref D) iB) (λr s'=>∃f,r=.ok f/\∃G',bX C G G' O' O' s s'/\bz C G' w2 s'.heap/\(∃cJ,cL C G' O' ⟨dC,none,lv⟩ iu iB cJ s'.heap)/\P G' s'.heap D L) lM)
 (h:∀D L G' s' f,MI C G s w2 D L G' s'->P G' s'.heap D L->compPost C.M A ee use Q (.ref D) L (.ok f) s'):
 aK C.M A (comprehension e dC env p zz false (eval it env) use) Q ee s:=by
 have wo:∀p∈dC.names,p.2=.free->∃c,env.cells.lookup p.1=some c:=λp hp hf=>by
  (refine bS (S.free _ hp hf) λi h3 h4=>?_)
  (refine oB (S.PM i _ h3 h4) λj h5 h6 h7 h8=>?_)
  have oo:j<fr.length:=by
   refine eW H.F.len ?_;induction q:decide (j<ns.length)using ax with
   |true=>exact of_decide_eq_true q
   |false=>rw[ba (bu (of_decide_eq_false q))]at h6;exact nn h6
  (refine nX (H.F.p9 j _ _ h6 (aV oo) λe=>by rcases H.F.cl _ h8 with q|q<;>rw[q]at e<;>cases e) λ_ c _ q1 _=>?_)
  exact⟨c,q1⟩
 (refine dT (tV wo) λcl aap Tq K4=>?_)
 refine wpAny_comprehension_free qY (λx=>by refine eW hg0 ?_;exact zZ hn x) aap S.kind (λx hx hl=>by exact eW (S.all x hx)<|eW hl rfl) (cX (hi.v G O env A s fr wl _ w1 q1 H) λv aM q1=>dT q1 λG1 x1 W1 R1=>?_)
 have F1:=H.F.step x1;refine zH W1 R1 q2 λo hf I=>Ti (LK λlM hI=>?_)
 have x2:Step C G1 G1 aM {aM with heap:=aM.heap.push o}:=.grow _ aM.toks (cQ o)
 have x3:Step C G1 G1 {aM with heap:=aM.heap.push o} {aM with heap:=(aM.heap.push o).push od}:=.grow _ aM.toks λ_ _ e=>a_ _ e
 have x4:Step C G1 G1 {aM with heap:=(aM.heap.push o).push od} lM:=by
  (refine u_ (hI.toInCall.same) λh' tk e=>?_)
  subst e;exact .grow h' tk hI.toInCall.keep
 have xs:=x1.trans (x2.trans (x3.trans x4))
 have W3:bz C G1 w1 ((aM.heap.push o).push od):=(W1.grow (cQ o)).grow λ_ _ e=>a_ _ e
 have F3:=F1.step (x2.trans x3);generalize hia:aM.heap.objs.size=ia at*
 have Yz:(aM.heap.push o).objs.size=ia+1:=by exact eW (gc ..)<|eW hia rfl
 have Yx:((aM.heap.push o).push od).objs.size=ia+2:=by exact eW (gc ..)<|eW Yz rfl
 have old:∀{c:aO},ia<=c->aM.heap.get? c=none:=λ{c} hc=>by
  induction q:aM.heap.get? c using aA with
  |none=>rfl
  |some o=>have:=bb q;rw[hia]at this;exact absurd this (cG.mpr hc)
 have Dp:∀{c:aO},ia<=c->s.heap.get? c=none:=λ{c} hc=>by
  induction q:s.heap.get? c using aA with
  |none=>rfl
  |some o'=>(refine xE (x1.alive _ _ q) λo2 h2=>?_);rw[old hc]at h2;exact nn h2
 have hO0:∀{c:aO},ia<=c->O c=none:=λ{c} hc=>by
  induction q:O c using aA with
  |none=>rfl
  |some r=>(refine mF (H.F.iK _ _ q) λ_ _ o' pZ=>?_);rw[Dp hc]at pZ;exact nn pZ
 have Xd:((aM.heap.push o).push od).get? (ia+1)=some od:=by exact eL Yz<|bI _ hod
 have hi3:((aM.heap.push o).push od).get? ia=some o:=a_ _ (by exact eL hia<|bI _ hf)
 have S':An sc.s dC ns iu m aX:=S
 have ncs:∀c,ia<=c->∀(j:Nat)(y:bA),ns[j]?=some y->env.kindOf y≠some .local->env.cells.lookup y≠some c:=λc hc=>H.F.mS (Dp hc)
 have nF1:∀{c:aO},ia<=c->G1.F c=none:=λhc=>kg W1 (old hc)
 have V2:∀{c:aO},ia<=c->eQ C G1 c:=λhc=>gx W1 (old hc);dsimp only at hI⊢;rw[Yx]at hI;refine eW Yz<|eW Yx ?_
 have Fin:=TN (lv:=lv) (D:=ia+1) (L:=ia+2) (s:={aM with heap:=(aM.heap.push o).push od}) S W3 F3 q3 Xd (nF1 (by lia)) (V2 (by lia)) (hO0 (by lia)) (ncs _ (by lia)) Tq K4 Yx.symm (by exact eW Yx rfl) hI (iB:={scope:=relabel dC env,locals:=ia+2,globals:=env.globals,cells:=cellsFrom (ia+2+1) dC.names []++cl,qual:=env.qual,func:=none,code:=env.code,frame:=env.frame,builtins:=env.builtins}) rfl rfl rfl rfl rfl rfl
 have FF:=hI.toInCall.keep
 have csb:∀q∈cellsFrom (ia+2+1) dC.names [],ia+2+1<=q.2:=λq hq=>of_decide_eq_true (aH.mp (fY dC.names (ia+2+1)) q hq)
 have VY:∀{c:aO},c<ia+3->(cellsFrom (ia+2+1) dC.names []).find? (λp=>p.2==c)=none:=λ{c} hc=>by
  refine jh.mpr λq hq hb=>?_
  have h1:=csb q hq;rw[beq_iff_eq.mp hb]at h1;exact absurd hc (cG.mpr h1)
 have e01:ia≠ia+1:=bx (bg _)
 have e02:ia≠ia+2:=bx (eN (by decide))
 have e12:ia+1≠ia+2:=bx (bg _);generalize W_:mP (ia+2) (ia+1) iu.length (cellsFrom (ia+2+1) dC.names []) cl O=O' at*
 have yG:O' (ia+1)=some (.own iu.length 0):=by refine eL W_ ?_;unfold mP;exact eW (if_neg e12)<|eW (if_pos rfl) rfl
 have hOi:O' ia=none:=by
  refine eL W_ ?_;unfold mP;rw[if_neg e02,if_neg e01,VY (eN (by decide))];dsimp only;split
  . rfl
  . exact eW (hO0 (aT _)) rfl
 have I4:lJ C G1 lM.heap ia ds:=I.ext (.refl G1) λo' e=>FF _ _ (a_ _ e)
 have held:∀c o',s.heap.get? c=some o'->¬qk O' c:=λc o' e q2=>bS q2 λr hr hl=>by
  have hc:c<ia:=by
   induction q:decide (c<ia)using ax with
   |true=>exact of_decide_eq_true q
   |false=>rw[Dp (bu (of_decide_eq_false q))]at e;exact nn e
  rw[<-W_]at hr;unfold mP at hr;rw[if_neg (bx (az hc (aP _ _))),if_neg (bx (az hc (aP _ _))),VY (az hc (aP _ _))]at hr;dsimp only at hr;split at hr
  . exact nn hr
  . (refine bS (c8.mp hr) λ_ _ q3=>?_;subst q3)
    exact hl rfl
 have Zj:(ia+1==sysModules)=false:=by
  have:=Fu (s:={aM with heap:=aM.heap.push o}) H.base (W1.grow (cQ o));dsimp only at this;rw[Yz]at this;exact this
 have rd:=H.room.depth
 have ru:=H.room.units;rw[Ar]at rd ru;refine kH (loop G1 O' _ lM (ia+1) ia (ia+2) ⟨H.base,⟨H.room.handled,(room_in H Ar).1,(room_in H Ar).2⟩,W3.grow FF,Fin⟩ yG (FF _ _ Xd) I4 ⟨nF1 (aT _),V2 (aT _),hOi,o,FF _ _ hi3⟩ (λj y hy hk hc=>?_) xs.o (Dp (aT _)) (Dp (by lia)) rfl e12 Zj) λr s' h'=>M_ h' λf e G' X' W' h' p=>xE h' λcJ F'=>?_
 . have hl:j<(bD m Slot.unset++PC).length:=by
    refine eW Fin.len ?_;induction q:decide (j<iu.length)using ax with
    |true=>exact of_decide_eq_true q
    |false=>rw[ba (bu (of_decide_eq_false q))]at hy;exact nn hy
   (refine m_ (Fin.p9 j y _ hy (aV hl) hk) λ_ c ov e1 q4=>?_;obtain⟨oc,e2,e3⟩:=q4;intro _)
   rw[hc]at e1;cases e1
   (refine bS (HI I4) λo2 e4 e5=>?_)
   rw[e4]at e2;cases e2;exact e5 _ e3
 . subst e
   (refine jN (F'.iK _ _ F'.lN) λl1 l2 _=>?_)
   (refine jN (F'.iK _ _ yG) λd1 d2 _=>?_)
   (refine bS (F'.loc) λmm hm _=>?_)
   exact h (ia+1) (ia+2) G' s' f ⟨bX.out (Step.refl C G s) X' held,W',Dp (by lia),Dp (by lia),e12,l1,l2,⟨mm,hm⟩,d1,d2⟩ p
end
section
variable {G0:Gh}
def SE(C:Cx)(G:Gh)(h₀ h:eu)(v:aB)(L:aO):EV->Prop
 |.fv d=>Rep C G v d
 |.bor _=>False
 |.own t=>∃bq:aO->Option Role,(∀a r,bq a=some r->h₀.get? a=none/\(∃k,r=.own 0 k/\k≠n3)/\G.F a=none/\eQ C G a/\∃o,h.get? a=some o)/\dM C G bq h (λk=>some (.own 0 k)) v t/\bq L=none
structure ur(C:Cx)(G:Gh)(s:aN)(wl:WL)(D L:aO)(e:EV)(G':Gh)(s':aN):Prop where
 x:Step C G G' s s'
 w:bz C G' wl s'.heap
 nL:s.heap.get? L=none
 fL:G'.F L=none
 yI:eQ C G' L
 ns:∃m,s'.heap.Ns L m
 r:SE C G' s.heap s'.heap (.ref D) L e
theorem MI.freeze(e:MI C G s wl D L G' s'){o:jX}(ho:s'.heap.get? D=some o)(R:∀EX:Gh,Ext G' EX->EX.F D=some o->Rep C EX (.ref D) d):∃EX,ur C G s wl D L (.fv d) EX s':=by
 have hx:Ext G' (G'.with s'.heap λa=>a=D):=⟨λa o q=>by
  by_cases z:a=D
  . subst z;rw[e.fD]at q;exact nn q
  . exact eW (d7 (P:=λa=>a=D) z)<|q,λ_ q=>q⟩
 refine⟨G'.with s'.heap λa=>a=D,⟨e.x.ext.trans hx,e.x.keep,e.x.alive,λa o q=>?_,e.x.kB,e.x.gens,e.x.os⟩,⟨λa o q=>?_,λa o q=>hx.f _ _ (e.w.base a o q),λq hq=>?_,?_⟩,e.nL,?_,e.yI,e.ns,R _ hx ((fT (P:=λa=>a=D) rfl).trans ho)⟩
 . by_cases z:a=D
   . subst z;exact .inr e.nD
   . rw[d7 (P:=λa=>a=D) z]at q;exact e.x.lx a o q
 . by_cases z:a=D
   . rw[fT (P:=λa=>a=D) z]at q;exact q
   . rw[d7 (P:=λa=>a=D) z]at q;exact e.w.sub a o q
 . (refine vb (e.w.tabs q hq) λh1 h2 ps h3 h4 h5=>?_)
   refine⟨?_,h2,ps,h3,h4,λpos cv e=>(h5 pos cv e).mono hx.f⟩;exact eW (d7 (P:=λa=>a=D) λz=>e.wz.1 q hq z)<|h1
 . have W':=e.w.well
   show gI C (G'.with s'.heap λa=>a=D) s'.heap G'.aw wl;induction hw:G'.aw using aA with
   |none=>rw[hw]at W';induction wl using aA<;>first|exact W'.elim|exact trivial
   |some b=>
    rw[hw]at W';induction wl using aA with
    |none=>exact W'.elim
    |some ds=>
     (refine nX W' ?_;clear W';intro h1 vs n h2 r)
     refine⟨?_,vs,n,h2,r.mono hx⟩;exact eW (d7 (P:=λa=>a=D) λz=>e.wz.2 (z▸hw))<|h1
 . exact eW (d7 (P:=λa=>a=D) λz=>e.ne z.symm)<|e.fL
theorem MI.own(e:MI C G s wl D L G' s'){o:jX}(ho:s'.heap.get? D=some o)(R:∀bq:aO->Option Role,bq D=some (.own 0 0)->dM C G' bq s'.heap (λk=>some (.own 0 k)) (.ref D) t):ur C G s wl D L (.own t) G' s':=by
 refine⟨e.x,e.w,e.nL,e.fL,e.yI,e.ns,λa=>if a=D then some (.own 0 0)else none,λa r q=>?_,R _ (if_pos rfl),if_neg (d5 e.ne)⟩;dsimp only at q;by_cases z:a=D
 . subst z
   rw[if_pos rfl]at q;cases q;exact⟨e.nD,⟨0,rfl,by decide⟩,e.fD,e.wz,o,ho⟩
 . rw[if_neg z]at q;exact nn q
theorem ur.pe{e:EV}(x:ur C G s wl D L e G' s')(sb:cS L s'.heap h'):PE C G O s e wl (.ref D) {s' with heap:=h'}:=by
 refine⟨G',x.x.mod (t:=s'.toks) x.nL sb,x.w.mod x.fL x.yI sb,?_⟩
 have r:=x.r;induction e using EV.casesOn with
 |fv d=>exact r
 |bor t=>exact r.elim
 |own t=>
  (refine dT r ?_;clear r;intro bq m T nL)
  refine⟨bq,λa r q=>?_,T.at_ λa k q o ho=>(sb.2 a λz=>by rw[z,nL]at q;exact nn q).trans ho⟩
  (refine ng (m a r q) λh1 h2 h3 h4 o h5=>?_)
  have:a≠L:=λz=>by rw[z,nL]at q;exact nn q
  exact⟨h1,h2,h3,h4,o,(sb.2 a this).trans h5⟩
theorem ur.post{e:EV}(x:ur C G s wl D L e G' s')(f:Flow):compPost C.M A ee none (PE C G O s e wl) (.ref D) L (.ok f) s':=
 xE (x.ns) λm hm=>
 ⟨m,hm,λ_ sb=>x.pe sb⟩
theorem ur.stored{e:EV}(V:ur C G s wl D L e G' s')(F0:cL C G O sc ns env fr s.heap)(hx:ns[i]?=some x)(he:e.Dh=some sl)(hs:setSlot fr i sl=some cJ)(f:Flow):
 compPost C.M A ee (some (assign (.Name x px) env)) (λ_ qo=>PS C G O sc ns env s .next cJ wl .next qo) (.ref D) L (.ok f) s':=by
 show aK C.M A (assign (.Name x px) env (.ref D)) _ _ _
 have oL:O L=none:=by
  induction q:O L using aA with
  |none=>rfl
  |some r=>(refine mF (F0.iK _ _ q) λ_ _ o ho=>?_);rw[V.nL]at ho;exact nn ho
 have ncL:=F0.mS V.nL
 have fin:∀{O2:aO->Option Role},bX C G G' O O2 s s'->cL C G' O2 sc ns env fr s'.heap->O2 L=none->cV C G' O2 s'.heap i sl (some (.ref D))->sl.writable=true->
  aK C.M A (assign (.Name x px) env (.ref D)) (λ_ qo=>∃m,qo.heap.Ns L m/\∀h',cS L qo.heap h'->PS C G O sc ns env s .next cJ wl .next {qo with heap:=h'}) ee s':=λ{O2} X F oL2 S hw=>by
  refine assign_Name (vi V.w F hx hs hw F.iK (λ_ _ e _=>e) (λ_ _ e=>.inr e) (λ_ _ e=>.inl e) S λqo a W' F' he sb hr al=>?_)
  (refine u_ he ?_;clear he;intro h'' tk q1;subst q1)
  (refine xE (V.ns) λm hm=>?_)
  have haL:L≠a:=λz=>by
   (refine bS hr ?_;clear hr;intro r h1 _)
   rw[<-z,oL2]at h1;exact nn h1
  refine⟨m,hm.sameBut sb haL,λh' Qq=>?_⟩
  have hn:s.heap.get? a=none\/qk O a:=by
   induction q:s.heap.get? a using aA with
   |none=>exact .inl rfl
   |some o=>
    by_cases hh:qk O a
    . exact .inr hh
    . exact absurd (FN hr) (X.own a o q hh)
  have X2:=X.mod (t:=tk) hn sb al
  have k:=eH Qq;exact⟨G',O2,X2.loose (t:=tk) V.nL k,W'.loose V.fL V.yI k,F'.loose oL2 ncL k,trivial⟩
 exact match e,he,V.r with
 |.fv d,he,r=>fin V.x.o (F0.step V.x) oL (ag he▸⟨_,rfl,r⟩) (ag he▸rfl)
 |.own t,he,r=>dT r λbq p T nL=>by
  have m:nV C G' s.heap s'.heap 0 bq:=λa r e=>jN (p a r e) λq1 q2 q3=>⟨q1,bS q2 λk h1 h2=>⟨0,k,h1,aT _,h2⟩,q3⟩;refine fin (rr (is:=[i]) V.x m) (F0.zD V.x m) ?_ (ag he▸⟨_,rfl,dM.relabel (λa k e=>?_) T⟩) (ag he▸rfl)
  . unfold oq
    exact eW nL<|oL
  . unfold oq;exact eW e rfl
def P8(C:Cx)(bp:my)(k:Nat)(sc:Sc)(ns:List bA)(e:af)(ir:IE):Prop:=
 ∀(G:Gh)(O:aO->Option Role)(env:ra)(A:fF)(s:aN)(fr:List Slot)(wl:WL)(y:EV)(bQ:WL)(x:bA)(px:dK)(i:Nat)(sl:Slot)(cJ:List Slot),ev bp ir fr wl=some (y,bQ)->Here C G O sc ns env fr wl k A s->ns[i]?=some x->
  y.Dh=some sl->setSlot fr i sl=some cJ->aK C.M A (evalThenUse e env (assign (.Name x px) env)) (λ_ s'=>PS C G O sc ns env s .next cJ bQ .next s') ee s
theorem GP{l:Nat}:(∃b,swapsWith e (some (.Name x px)) l env=pure b):=by
 induction e using bF<;>first|exact⟨false,rfl⟩|exact⟨_,rfl⟩
theorem G_{pos:dK}{a:IE}(hx:ns[i]?=some x)(ha:dS C bp k sc ns e a)(hu:P8 C bp k sc ns e a):jw C bp N k sc ns (.Assign [.Name x p] e pos) (.assign i a):=λG O env A s fr wl fl cJ bQ q H=>f9 q λy w1 q1 q=>ob q λsl hs q=>MM q λf_ q3=>xE (GP (env:=env) (e:=e) (x:=x) (px:=p) (l:=pos.line)) λb hb=>match b,hb with
 |false,hb=>xZ (ha.run H q1 λv aM G1 x1 H1 R1=>cX (AP H.F x1 H1.W R1 hx hs q3) λ_ s' h=>h.next) hb
 |true,hb=>by
  exact eW (exec_Assign_Name_used _ _ _ _ hb)<|ai (cc (ai (cX (hu G O env A s fr wl y w1 x p i sl f_ q1 H hx hs q3) λ_ s' h=>ar h)))
end
section
variable {G0:Gh}
abbrev ft:jX:={cls:=.type "list",data:=.seq ([]:List aB).toArray}
def xY(C:Cx)(bp:my)(k:Nat)(sc:Sc)(ns:List bA)(e it:af)(dC:jD)(zz:Sem aB)(ir:IE):Prop:=
 ∀(G:Gh)(O:aO->Option Role)(env:ra)(A:fF)(s:aN)(fr:List Slot)(wl:WL)(y:EV)(bQ:WL)(p:dK)(use:Option (aB->Sem Unit))(Q:aB->aN->Prop),ev bp ir fr wl=some (y,bQ)->Here C G O sc ns env fr wl k A s->
  (∀D L G' s' f,ur C G s bQ D L y G' s'->compPost C.M A ee use Q (.ref D) L (.ok f) s')->aK C.M A (comprehension e dC env p zz false (eval it env) use) Q ee s
theorem xY.list{t:af}{pos:dK}(h:xY C bp k sc ns (.ListComp elt (⟨t,it,ifs,0⟩::gs) dC pos) it dC (newList []) ir)
 (he:∀fr wl,eK bp ir fr wl=(ev bp ir fr wl).bind λx=>(iR x.1).map λb=>(b,x.2)):
 dS C bp k sc ns (.ListComp elt (⟨t,it,ifs,0⟩::gs) dC pos) ir/\P8 C bp k sc ns (.ListComp elt (⟨t,it,ifs,0⟩::gs) dC pos) ir:=by
 refine⟨.mk' (λG O env A s fr wl e bQ q H=>?_) (λ_ _=>rfl) he rfl,λG O env A s fr wl y bQ x px i sl cJ q H hx hy hs=>?_⟩
 . exact h G O env A s fr wl e bQ it.pos none _ q H λD L G' s' f V=>V.post f
 . show aK C.M A (do let _<-comprehension (.ListComp elt (⟨t,it,ifs,0⟩::gs) dC pos) dC env it.pos (newList []) false (eval it env) (some (assign (.Name x px) env))) _ ee s
   exact ai (cX (h G O env A s fr wl y bQ it.pos (some (assign (.Name x px) env)) (λ_ s'=>PS C G O sc ns env s .next cJ bQ .next s') q H λD L G' s' f V=>V.stored H.F hx hy hs f) λ_ _ p=>ar p)
theorem xY.dict{kx vx t:af}{pos:dK}(h:xY C bp k sc ns (.DictComp kx vx (⟨t,it,ifs,0⟩::gs) dC pos) it dC newDict ir)
 (he:∀fr wl,eK bp ir fr wl=(ev bp ir fr wl).bind λx=>(iR x.1).map λb=>(b,x.2)):
 dS C bp k sc ns (.DictComp kx vx (⟨t,it,ifs,0⟩::gs) dC pos) ir/\P8 C bp k sc ns (.DictComp kx vx (⟨t,it,ifs,0⟩::gs) dC pos) ir:=by
 refine⟨.mk' (λG O env A s fr wl e bQ q H=>?_) (λ_ _=>rfl) he rfl,λG O env A s fr wl y bQ x px i sl cJ q H hx hy hs=>?_⟩
 . exact h G O env A s fr wl e bQ it.pos none _ q H λD L G' s' f V=>V.post f
 . show aK C.M A (do let _<-comprehension (.DictComp kx vx (⟨t,it,ifs,0⟩::gs) dC pos) dC env it.pos newDict false (eval it env) (some (assign (.Name x px) env))) _ ee s
   exact ai (cX (h G O env A s fr wl y bQ it.pos (some (assign (.Name x px) env)) (λ_ s'=>PS C G O sc ns env s .next cJ bQ .next s') q H λD L G' s' f V=>V.stored H.F hx hy hs f) λ_ _ p=>ar p)
theorem JK{t:af}{pos:dK}{own:Bool}{a:IE}{g:IG}(Ar:sc.lv=lv+1)(hi:dS C bp k sc ns it a)(hn:gV it=true)
 (WD:i4 sc.s dC ns iu m aX=true)(ht:cY iu t f7=true)(L:fO (dS C bp k ⟨dC,none,lv⟩ iu) ifs il)(IM:∀g∈(⟨t,it,ifs,0⟩::gs:List cR),g.is_async=0)
 (hr:Ip C bp k ⟨dC,none,lv⟩ iu elt (⟨t,it,ifs,0⟩::gs) dC pos 1 g):xY C bp k sc ns (.ListComp elt (⟨t,it,ifs,0⟩::gs) dC pos) it dC (newList []) (.comp own m aX a f7 il g):=λG O env A s fr wl y bQ p use Q q H mN=>by
 refine f9 q λy0 w1 q1 q=>ob q λds q2 q=>ob q2 λd0 h1 q2=>ob q λPC q3 q=>ob q λz q4 q=>dU q λhz q=>?_
 have q1:ev bp a fr wl=some (.fv d0,w1):=eg (P:=λy0=>ev bp a fr wl=some (y0,w1)->_) h1 (λh=>h) q1;clear h1
 revert mN
 refine sp (P:=λy bQ=>(∀D L G' s' f,ur C G s bQ D L y G' s'->compPost C.M A ee use Q (.ref D) L (.ok f) s')->_) q λmN=>?_;refine wK (od:=ft) (w2:=z.2.2) (P:=λG' h D L=>∃vs n,h.get? D=some {cls:=.type "list",data:=.seq vs n}/\bB C G' vs.toList z.2.1) rfl rfl hn Ar (z6 WD) hi (λh=>jC h) rfl q1 q2 q3 H
  (λG1 O' iB lM D ia L' H4 yG hD I Lo nc X n0 _ _ _ _=>?_) λD L' G' s' f e h=>gg h λvs n hD hR=>?_
 . have d:=H4.F.iK _ _ yG
   have go:=K_ (d:=0) (gens:=⟨t,it,ifs,0⟩::gs) (elt:=elt) (scope:=dC) (pos:=pos) rfl IM ht L hr (show kh (AG bp f7 il g) ds (_,[],w1)=some (z.1,z.2.1,z.2.2)from q4) (dN hz) X n0 H4 ⟨D,rfl,yG,d.2.1,d.1,#[],0,hD,.nil⟩ I Lo nc
   have go':=kH go (R':=λr s'=>∃f,r=.ok f/\∃G',bX C G G' O' O' s s'/\bz C G' z.2.2 s'.heap/\(∃cJ,cL C G' O' ⟨dC,none,lv⟩ iu iB cJ s'.heap)/\∃vs n,s'.heap.get? D=some {cls:=.type "list",data:=.seq vs n}/\bB C G' vs.toList z.2.1) λr s' h=>
    bS h λf e h=>oB h λG' X' W' F' R'=>⟨f,e,G',X',W',⟨_,F'⟩,(lu R').2.2.2⟩
   exact AQ (d:=0) (gens:=⟨t,it,ifs,0⟩::gs) rfl go' (rG I go')
 . induction own using ax with
   |true=>exact mN D L' G' s' f (e.own hD λbq hO=>⟨D,rfl,hO,e.wz,e.fD,vs,n,hD,hR⟩)
   |false=>exact xE (e.freeze hD (d:=.list z.2.1) λEX x hF=>.list (vs:=vs.toList) (n:=n) (by simpa using hF) (hR.mono x)) λG2 V=>mN D L' G2 s' f V
end
section
variable {G0:Gh}
def Jk(bp:my)(f7:Nat)(v:IE)(a:List Slot×List (Int×FV)×WL)(k:FV):Option (List Slot×List (Int×FV)×WL):=Pu f7 a (λf_=>ev bp v f_ a.2.2) k
theorem yi{f7:Nat}{v:IE}{a b:List Slot×List (Int×FV)×WL}{k:FV}(q:Jk bp f7 v a k=some b):∃i f_ d w,k=.int i/\c6 a.1 [f7] (.int i)=some f_/\ev bp v f_ a.2.2=some (.fv d,w)/\b=(f_,dD a.2.1 i d,w):=
 ob q λi h0 q=>ob q λf_ h1 q=>f9 q λy w h2 q=>Ap q λd h3 e=>⟨i,f_,d,w,FV.D2 (P:=λk=>k=.int i) h0 rfl,h1,(eg (P:=λy=>ev bp v f_ a.2.2=some (y,w)->_) h3 λh=>h) h2,(ag e).symm⟩
theorem tK{i:Int}:∀{es:List (Int×FV)},es.length<=(dD es i d).length
 |[]=>aU _
 |(j,e)::r=>by
  unfold dD;split
  . exact aT _
  . exact cB tK
theorem vd{f7:Nat}{v:IE}{a b:List Slot×List (Int×FV)×WL}{k:FV}(q:Jk bp f7 v a k=some b):a.2.1.length<=b.2.1.length:=by
 exact jE (yi q) λi f_ d w h=>fA h λ_ _ _ e=>e▸tK
def DictAt(C:Cx)(G:Gh)(h:eu)(D:aO)(es:List (Int×FV)):Prop:=
 ∃f vs,h.MapOf (ik C) D f/\bB C G vs (es.map (·.2))/\(∀k,f k=((es.map (·.1)).zip vs).lookup k)/\h.DictLe D es.length/\(es.map (·.1)).Nodup
theorem DictAt.step{es:List (Int×FV)}(x:Step C G G' s s')(f:eQ C G D)(d:DictAt C G s.heap D es):DictAt C G' s'.heap D es:=by
 exact gg d λf0 vs h1 h=>fA h λh2 h3 h4 h5=>xE (fZ h1) λo ho=>⟨f0,vs,lz (x.at_ f) h1,h2.mono x.ext,h3,lh (x.at_ f) ho h4,h5⟩
theorem DictAt.same{es:List (Int×FV)}(k:c7 h h' D)(d:DictAt C G h D es):DictAt C G h' D es:=by
 exact gg d λf0 vs h1 h=>fA h λh2 h3 h4 h5=>xE (fZ h1) λo ho=>⟨f0,vs,lz k h1,h2,h3,lh k ho h4,h5⟩
def XM(C:Cx)(G:Gh)(O:aO->Option Role)(sc:Sc)(ns:List bA)(env:ra)(D:aO)(s:aN)(run:Gh->aN->Nat->List Slot×List (Int×FV)×WL->Prop)(n:Nat)(s':aN):Prop:=
 ∃G' gX yM ji,bX C G G' O O s s'/\bz C G' ji s'.heap/\cL C G' O sc ns env gX s'.heap/\DictAt C G' s'.heap D yM/\run G' s' n (gX,yM,ji)
theorem Ha{vx t:af}{pos:dK}{own:Bool}{f7:Nat}{a b:IE}(Ar:sc.lv=lv+1)(hi:dS C bp k sc ns it a)(hn:gV it=true)
 (WD:i4 sc.s dC ns iu m aX=true)(ht:cY iu t [f7]=true)(hx:iu[f7]?=some x)(hd:(x==("__debug__":bA))=false)(hc:(x==("__classdict__":bA))=false)(hv:dS C bp k ⟨dC,none,lv⟩ iu vx b):
 xY C bp k sc ns (.DictComp (.Name x p) vx [⟨t,it,[],0⟩] dC pos) it dC newDict (.rR own m aX a f7 b):=λG O env A s fr wl y bQ p' use Q q H mN=>by
 refine f9 q λy0 w1 q1 q=>ob q λds q2 q=>ob q2 λd0 h1 q2=>ob q λPC q3 q=>ob q λz q4 q=>dU q λhz q=>?_
 have q1:ev bp a fr wl=some (.fv d0,w1):=eg (P:=λy0=>ev bp a fr wl=some (y0,w1)->_) h1 (λh=>h) q1;clear h1
 have Tg:∃y py,t=.Name y py:=kL ht λx p _=>⟨_,_,rfl⟩
 (refine u_ Tg ?_;clear Tg;intro yt pt q1;subst q1)
 revert mN
 refine sp (P:=λy bQ=>(∀D L G' s' f,ur C G s bQ D L y G' s'->compPost C.M A ee use Q (.ref D) L (.ok f) s')->_) q λmN=>?_;refine wK (od:={cls:=.type "dict",data:=.dict #[]}) (w2:=z.2.2) (P:=λG' h D L=>DictAt C G' h D z.2.1/\(D==sysModules)=false) rfl rfl hn Ar (z6 WD) hi (λh=>by simp only[newDict,newObj];exact ai (tx (ar h))) rfl q1 q2 q3 H
  (λG1 O' iB lM D ia L' H4 yG hD I Lo nc X n0 hDn _ _ K1=>?_) λD L' G' s' f e h=>xA h λhD K1=>?_
 . have d:=H4.F.iK _ _ yG
   have IP:D≠ia:=λe=>by rw[e,Lo.own]at yG;exact nn yG
   have D0:DictAt C G1 lM.heap D []:=by
    refine⟨λ_=>none,[],⟨_,#[],0,hD,⟨rfl,rfl,rfl⟩,rfl,λe he=>(by simp at he),λk=>rfl⟩,.nil,λ_=>rfl,λo es ep ho hd=>?_,eC⟩;rw[hD]at ho;cases ho;cases hd;exact aT _
   have go:codeAny C.M A (.compLoop (.DictComp (.Name x p) vx [⟨.Name yt pt,it,[],0⟩] dC pos) 0 (.ref ia) (.ref D) iB)
    (λr s'=>∃f,r=.ok f/\∃G',bX C G G' O' O' s s'/\bz C G' z.2.2 s'.heap/\(∃cJ,cL C G' O' ⟨dC,none,lv⟩ iu iB cJ s'.heap)/\DictAt C G' s'.heap D z.2.1/\(D==sysModules)=false) lM:=by
    refine codeAny_compLoop_testsD (XM C G O' ⟨dC,none,lv⟩ iu iB D s λG' s' n a=>∃rest,n=rest.length/\lJ C G' s'.heap ia rest/\Loose C G' O' s'.heap ia/\kh (Jk bp f7 b) rest a=some (z.1,z.2.1,z.2.2)) (λn s' hI=>?_) ds.length ⟨G1,_,[],w1,X,H4.W,H4.F,D0,ds,rfl,I,Lo,q4⟩;refine jE hI λG' gX yM ji h=>kI h λX W F DA h=>oB h λrest hn I Lo q=>?_;subst hn
    have d:=F.iK _ _ yG;induction rest using bP with
    |nil=>
     have e1:gX=z.1:=(gd (ag q)).1
     have e2:yM=z.2.1:=(gd (gd (ag q)).2).1
     have e3:ji=z.2.2:=(gd (gd (ag q)).2).2;subst e1 e2 e3;exact zI H.room.handled X n0 nc W F I Lo λs1 X W F k=>⟨_,rfl,G',X,W,⟨_,F⟩,DA.same (k _ IP),K1⟩
    |cons v0 rest=>
     refine ob q λy q6 q7=>?_
     have hb3:y.2.1.length<=z.2.1.length:=nA (m:=λa=>a.2.1.length) (λa v b q=>vd q) q7
     have hb1:=vd q6;refine jE (yi q6) λi0 Lb dv Zg h=>fA h λe0 q8 q9 e6=>?_;subst e0 e6;dsimp only at hb1 hb3;refine vY X n0 nc W F I Lo λv s1 Rv nx=>?_;refine cX (wU (s:=s1) H.room.handled nx.W nx.F Rv ht q8) λ_ et pv=>wpAny_tests_nil ?_
     have DA3:DictAt C G' et.heap D yM:=(DA.same (nx.k _ IP)).same (pv.m D _ yG (.inr ⟨_,_,rfl⟩));refine eW (if_pos rfl) ?_
     have aah:Lb[f7]?=some (.val (.int i0)):=by
      exact dT (set_slot q8) λold h1 _ h3=>h3▸cu (fB h1)
     have H3:Here C G' O' ⟨dC,none,lv⟩ iu iB Lb ji k A et:=⟨H4.base,H4.room,pv.w,pv.f⟩;refine(Qr (bp:=bp) hx hd hc).run (x:=.fv (.int i0)) (bQ:=ji) H3 (by refine eW fi<|eW aah ?_;rfl) λkv CY G5 x5 H5 R5=>ug R5 λtkk=>hv.run H5 q9 λvv acJ G6 x6 H6 R6=>?_
     have xx:=x5.trans x6
     have d3:=H6.F.iK _ _ yG;refine gg (DA3.step xx (pv.f.iK _ _ yG).2.1) λf0 vs h1 h=>fA h λh2(h3:∀k,f0 k=lk yM vs k) h4 h5=>?_;refine nx.next (pv.x.trans xx.o) λX I L=>?_
     refine map_set (C:=C) (tP i0 _) h1 h4 (by have:=kY hz;lia) λh7 sb7 hm7 hl7=>xE (tJ (j:=i0) R6 h2) λCA I7=>?_
     have k7:=eH sb7;exact⟨rest.length,bg _,G6,Lb,_,Zg,X.Kq (.inl hDn) k7 (fZ hm7),H6.W.loose d3.1 d3.2.1 k7,H6.F.outside yG (aT _) k7 (fZ hm7),⟨_,CA,hm7,I7.Si,λk=>by
      show _=lk _ _ _;exact eW (I7.lk ..)<|eL (h3 ..) rfl,by exact eW I7.len<|eL (h3 ..)<|hl7,I7.nd h5⟩,rest,rfl,I.ext (.refl G6) (k7 _ (d5 IP)),⟨L.f,L.free,L.own,xE L.has λo3 Z'=>⟨o3,k7 _ (d5 IP) _ Z'⟩⟩,q7⟩
   exact codeAny_compStart_dict go (rG I go)
 . refine gg hD λf0 vs h1 h=>fA h λh2 h3 h4 h5=>xE (fZ h1) λo ho=>?_
   induction own using ax with
   |true=>exact mN D L' G' s' f (e.own ho λbq hO=>⟨D,rfl,hO,e.wz,e.fD,K1,f0,vs,h1,h2,h3,h4,h5⟩)
   |false=>exact xE (e.freeze ho (d:=.dict z.2.1) λEX x hF=>.dict hF (λh' e'=>vP ho h1 e') K1 (h2.mono x) h3) λG2 V=>mN D L' G2 s' f V
end
section
variable {G0:Gh}
structure pz(C:Cx)(G:Gh)(O:aO->Option Role)(s:aN)(h:eu)(D L ia:aO)(b:aO):Prop where
 lo:Loose C G O h b
 eq:h.get? b=some ft
 new:s.heap.get? b=none
 nD:b≠D
 nL:b≠L
 ni:b≠ia
theorem pz.step{b:aO}(x:bX C G G' O O' s' qo)(f:pz C G O s s'.heap D L ia b):pz C G' O' s qo.heap D L ia b:=⟨f.lo.step x,f.lo.same x _ f.eq,f.new,f.nD,f.nL,f.ni⟩
theorem pz.same{b:aO}(k:c7 h h' b)(f:pz C G O s h D L ia b):pz C G O s h' D L ia b:=⟨⟨f.lo.f,f.lo.free,f.lo.own,_,k _ f.eq⟩,k _ f.eq,f.new,f.nD,f.nL,f.ni⟩
noncomputable def placeOf(bs:List aO)(a:aO):Option Nat:=bs.findIdx? (λb=>b==a)
theorem J7{bs:List aO}(nd:bs.Nodup){b:aO}(hj:bs[j]?=some b):placeOf bs b=some j:=by
 unfold placeOf
 have oo:=fB hj;refine iW jz ?_;rw[aV oo]at hj;refine⟨oo,by simpa using ag hj,λi hi=>?_⟩;simp only[beq_iff_eq];intro e
 have WN:i<bs.length:=dk hi oo
 have e2:bs[j]=b:=ag hj
 have:i=j:=(jJ WN nd).mp (by refine eW (aV WN)<|eW (aV oo) ?_;exact congrArg some (e.trans e2.symm));exact absurd hi (by exact eW this<|b9 _)
theorem sv{bs:List aO}(h:placeOf bs a=some j):bs[j]?=some a:=by
 unfold placeOf at h
 (refine bS (jz.mp h) λoo h1 _=>?_)
 exact eW (aV oo)<|eW (beq_iff_eq.mp h1) rfl
theorem Dz{bs:List aO}(hl:bs.length=xs.length)(hb:∀(i:Nat)(b:aO),bs[i]?=some b->bq b=some (.own 0 (j+i))/\eQ C G b/\G.F b=none/\h.get? b=some ft):
 gw C G bq h (λk=>some (.own 0 k)) j (bs.map .ref) (xs.map λ_=>[]):=
 l2 (P:=λbs xs=>∀j,bs.length=xs.length->(∀(i:Nat)(b:aO),bs[i]?=some b->bq b=some (.own 0 (j+i))/\eQ C G b/\G.F b=none/\h.get? b=some ft)->gw C G bq h (λk=>some (.own 0 k)) j (bs.map .ref) (xs.map λ_=>[])) bs xs (λ_ _ _=>trivial)
  (λb bs x xs ih j hl hb=>fA (hb 0 b rfl) λh1 h2 h3 h4=>⟨⟨b,rfl,h1,h2,h3,#[],0,h4,.nil⟩,ih (j+1) (kM hl) λi b' hi=>(dc j 1 i).symm▸hb (i+1) b' hi⟩) (λ_ _ _ hl=>nomatch hl) (λ_ _ _ hl=>nomatch hl) j hl hb
theorem HH(e:uN d=some ds):ds.length<=2^20:=oe e
 (λ_ e=>ob e λr _ e=>dU e λPa e=>rW Pa λ_ _ h=>by
   have:=dN h;rw[<-ag e,aj,oQ,aj,aq];exact this)
 λx _ e=>z2 e λhn e=>e▸dN hn
def LLs(C:Cx)(G:Gh)(s:aN)(h:eu)(D L:aO)(l:Nat):Prop:=
 ∃(bs:List aO)(n:Nat),h.get? D=some {cls:=.type "list",data:=.seq (bs.map uu).toArray n}/\bs.Nodup/\bs.length=l/\∀b∈bs,s.heap.get? b=none/\b≠D/\b≠L/\eQ C G b/\G.F b=none/\h.get? b=some ft
def XK(C:Cx)(G:Gh)(O:aO->Option Role)(sc:Sc)(ns:List bA)(env:ra)(D ia:aO)(s:aN)(wl:WL)(f7 l n:Nat)(s':aN):Prop:=
 ∃G' gX rest,∃bs:List aO,∃m0:Nat,n=rest.length/\bX C G G' O O s s'/\bz C G' wl s'.heap/\cL C G' O sc ns env gX s'.heap/\(∃sl,gX[f7]?=some sl/\sl.writable=true)/\
  s'.heap.get? D=some {cls:=.type "list",data:=.seq (bs.map uu).toArray m0}/\bs.Nodup/\bs.length+rest.length=l/\(∀b∈bs,pz C G' O s s'.heap D env.locals ia b)/\lJ C G' s'.heap ia rest/\Loose C G' O s'.heap ia
theorem C4{t:af}{pos:dK}{f7:Nat}{a:IE}(Ar:sc.lv=lv+1)(hi:dS C bp k sc ns it a)(hn:gV it=true)
 (WD:i4 sc.s dC ns iu m aX=true)(ht:cY iu t [f7]=true):xY C bp k sc ns (.ListComp (.List [] p) [⟨t,it,[],0⟩] dC pos) it dC (newList []) (.sX m aX a f7):=λG O env A s fr wl y bQ p' use Q q H mN=>by
 refine f9 q λy0 w1 q1 q=>ob q λds q2 q=>ob q2 λd0 h1 q2=>ob q λPC q3 q=>dU q λhm q=>?_
 have q1:ev bp a fr wl=some (.fv d0,w1):=eg (P:=λy0=>ev bp a fr wl=some (y0,w1)->_) h1 (λh=>h) q1;clear h1
 have Tg:∃y py,t=.Name y py/\iu[f7]?=some y:=by
  have ht:zC iu f7 t=true:=ht;exact kL ht λx p h=>⟨_,_,rfl,eq_of_beq h⟩
 (refine gg Tg ?_;clear Tg;intro yt pt q1;subst q1;intro hyt)
 revert mN
 refine sp (P:=λy bQ=>(∀D L G' s' f,ur C G s bQ D L y G' s'->compPost C.M A ee use Q (.ref D) L (.ok f) s')->_) q λmN=>?_
 have hlen:=HH q2;refine wK (od:=ft) (w2:=w1) (P:=λG' h D L=>LLs C G' s h D L ds.length) rfl rfl hn Ar (z6 WD) hi (λh=>jC h) rfl q1 q2 q3 H
  (λG1 O' iB lM D ia L' H4 yG hD I Lo nc X n0 hDn qY hDL K1=>?_) λD L' G' s' f e h=>u_ h λbs n h=>fA h λhD UC BP hb=>?_
 . have IP:D≠ia:=λe=>by rw[e,Lo.own]at yG;exact nn yG
   subst qY
   have hLO:O' iB.locals=some .loc:=H4.F.lN
   have go:codeAny C.M A (.compLoop (.ListComp (.List [] p) [⟨.Name yt pt,it,[],0⟩] dC pos) 0 (.ref ia) (.ref D) iB)
    (λr s'=>∃f,r=.ok f/\∃G',bX C G G' O' O' s s'/\bz C G' w1 s'.heap/\(∃cJ,cL C G' O' ⟨dC,none,lv⟩ iu iB cJ s'.heap)/\LLs C G' s s'.heap D iB.locals ds.length) lM:=by
    refine codeAny_compLoop_list (XK C G O' ⟨dC,none,lv⟩ iu iB D ia s w1 f7 ds.length) (λn s' hI=>?_) ds.length
     ⟨G1,_,ds,[],0,rfl,X,H4.W,H4.F,⟨.unset,by rw[ei (by simpa using hm),oh,if_pos hm],rfl⟩,hD,eC,dY _,λb h=>(nomatch h),I,Lo⟩
    refine jE hI λG' gX rest bs h=>oB h λm0 hn X W h=>kI h λF hs Xc UC h=>fA h λBP lC I Lo=>bS hs λsl eE hwr=>?_;subst hn;induction rest using bP with
    |nil=>
     refine KQ H.room.handled W I λh' hx=>?_
     have kk:∀b,b≠ia->c7 s'.heap h' b:=λb q o e=>hx b o q e;exact⟨_,rfl,G',X.loose n0 kk,W.loose Lo.f Lo.free kk,⟨_,F.loose Lo.own nc kk⟩,bs,m0,kk _ IP _ Xc,UC,by simpa using BP,λb hb=>⟨(lC b hb).new,(lC b hb).nD,(lC b hb).nL,(lC b hb).lo.free,(lC b hb).lo.f,kk _ (lC b hb).ni _ (lC b hb).eq⟩⟩
    |cons v0 rest=>
     refine FG W I λv h' tk Rv I' Qq al=>?_
     have kk:=eH Qq
     have X1:=X.loose (t:=tk) n0 kk
     have W1':=W.loose Lo.f Lo.free kk
     have F1':=F.loose Lo.own nc kk
     have L1:Loose C G' O' h' ia:=⟨Lo.f,Lo.free,Lo.own,al⟩
     have Z1:setSlot gX f7 (.val v0)=some (gX.set f7 (.val v0)):=by
      unfold setSlot;refine eW eE ?_;induction sl using Slot.casesOn<;>first|rfl|exact ff hwr
     have Tg:=fB eE;refine cX (wU (cJ:=gX.set f7 (.val v0)) (s:={s' with heap:=h',toks:=tk}) H.room.handled W1' F1' Rv ht Z1) λ_ et pv=>?_
     have d1:=pv.f.iK _ _ yG
     have Xd:=pv.m D _ yG (.inr ⟨_,_,rfl⟩) _ (kk _ IP _ Xc);refine eW (It ..) ?_;refine ai (cc (ai (m:=spliced []) (mC (jC ?_))))
     have x4:Step C G' G' et {et with heap:=et.heap.push ft}:=.grow _ et.toks (cQ _)
     have W4:=pv.w.grow (cQ ft)
     have F4:=pv.f.step x4
     have hD4:=cQ ft _ _ Xd
     have Yq:((bs.map uu).toArray).size=bs.length:=by simp
     refine xd iC ⟨_,hD4,rfl⟩ lU (lF _ _) (jc D _ m0 _ (by refine eW Yq<|eW dp ?_;exact ak (ak (aP _ _) (bh BP)) (ak hlen (by decide)))) ⟨hD4,?_⟩;refine xE (rm (f:=λz=>z.push (.ref et.heap.objs.size)) hD4) λn' h6=>?_
     have k7:=eH (cA (et.heap.push ft) D (o_ λz=>z.push (.ref et.heap.objs.size)))
     have Xa:D≠et.heap.objs.size:=bx (bb Xd)
     have XX:=pv.x.trans x4.o
     have L4:=L1.step (s:={s' with heap:=h',toks:=tk}) XX
     have nb:s.heap.get? et.heap.objs.size=none:=none_of ((X1.trans pv.x).alive _) eI
     have nOb:O' et.heap.objs.size=none:=none_of (y:=et.heap.get? et.heap.objs.size) (λr q=>(pv.f.iK _ _ q).2.2) eI;refine xE (pv.f.iK _ _ hLO).2.2 λoL WH=>xE (L1.step (s:={s' with heap:=h',toks:=tk}) pv.x).has λoi hoi=>?_
     have aaF:pz C G' O' s (et.heap.push ft) D iB.locals ia et.heap.objs.size:=
      ⟨⟨gM pv.w,gr pv.w,nOb,_,hC rfl⟩,hC rfl,nb,d5 Xa,e_ (bb WH),e_ (bb hoi)⟩
     have WQ:∀b∈bs,pz C G' O' s (et.heap.push ft) D iB.locals ia b:=λb hb=>pz.step (s':={s' with heap:=h',toks:=tk}) XX ((lC b hb).same (kk _ (lC b hb).ni))
     have WX:∀b∈bs,b≠et.heap.objs.size:=λb hb e=>gone eI (e▸(pz.step (s':={s' with heap:=h',toks:=tk}) pv.x ((lC b hb).same (kk _ (lC b hb).ni))).eq);refine⟨rest.length,bg _,G',_,rest,bs++[et.heap.objs.size],n',rfl,(X1.trans XX).Kq (.inl hDn) k7 ⟨_,h6⟩,W4.loose d1.1 d1.2.1 k7,F4.outside yG (aT _) k7 ⟨_,h6⟩,⟨.val v0,cu Tg,rfl⟩,?_,?_,?_,λb hb=>?_,?_,?_⟩
     . refine eW bf ?_
       simpa using h6
     . refine mW.mpr ⟨UC,by simp,λb hb c hc=>?_⟩
       simp only[aI]at hc;exact eW hc<|WX b hb
     . exact eW aJ<|(dc bs.length 1 rest.length).trans BP
     . rcases cq.mp hb with hb|hb
       . exact(WQ b hb).same (k7 _ (WQ b hb).nD)
       . simp only[aI]at hb
         subst hb;exact aaF.same (k7 _ (d5 Xa))
     . exact(I'.ext XX.ext (L1.same (s:={s' with heap:=h',toks:=tk}) XX)).ext (.refl G') (k7 _ (d5 IP))
     . exact⟨L4.f,L4.free,L4.own,xE L4.has λo3 Z'=>⟨o3,k7 _ (d5 IP) _ Z'⟩⟩
   exact codeAny_compStart_list go (rG I go)
 . refine mN D L' G' s' f ⟨e.x,e.w,e.nL,e.fL,e.yI,e.ns,λc=>if c=D then some (.own 0 0)else(placeOf bs c).map λj=>.own 0 (1+j),λc r q=>?_,?_,?_⟩
   . dsimp only at q
     split at q
     . rename_i hc
       cases q;subst hc;exact⟨e.nD,⟨0,rfl,by decide⟩,e.fD,e.wz,_,hD⟩
     . (refine bS (c8.mp q) λj h1 q2=>?_;subst q2)
       (refine iQ (hb c (aF (sv h1))) λb1 b2 b3 b4 b5 b6=>?_)
       have hj:j<bs.length:=(c9.mp (sv h1)).1;exact⟨b1,⟨_,rfl,λe=>by
        have:1+j=1073741824:=e;lia⟩,b5,b4,_,b6⟩
   . refine⟨D,_,n,rfl,if_pos rfl,e.wz,e.fD,hD,?_⟩
     refine Dz BP λi b hi=>?_
     (refine iQ (hb b (aF hi)) λb1 b2 b3 b4 b5 b6=>?_)
     refine⟨?_,b4,b5,b6⟩;exact eW (if_neg b2)<|eW (J7 UC hi) rfl
   . dsimp only
     refine eW (if_neg (d5 e.ne)) ?_;induction q:placeOf bs L' using aA with
     |none=>rfl
     |some j=>exact absurd rfl (hb _ (aF (sv q))).2.2.1
end
section
variable {G0:Gh}
theorem BR{P:aO}{Nw:aO->Prop}[DecidablePred Nw](B:Base C)(W:bz C G wl s.heap)(hx:∀b o,b≠P->s.heap.get? b=some o->h.get? b=some o)(hN:∀a,Nw a->s.heap.get? a=none)(hP:∃c,(c,P)∈C.tabs)
 (hT:∃ps,h.get? P=some (tabObj ps)/\TriplesOk ps.toList/\∀pos cv,codeAmong pos ps.toList=some cv->mX (G.with h Nw).F cv (C.tq P)):
 Ext G (G.with h Nw)/\Step C G (G.with h Nw) s {s with heap:=h,toks:=tk}/\bz C (G.with h Nw) wl h:=by
 (refine xE hP ?_;clear hP;intro c hc)
 have xe:Ext G (G.with h Nw):=jr W.sub hN
 (refine qn (W.tabs _ hc) λtF tA ps0 t0 _=>?_)
 have Sy:∀{a:aO}{o:jX},s.heap.get? a=some o->¬Nw a:=λe q=>by rw[hN _ q]at e;exact nn e
 refine⟨xe,⟨xe,λa o f e=>hx a o (λq=>f.1 _ hc q.symm) e,λa o e=>?_,λa o e=>?_,λ_ e=>.inl e,rfl,rfl⟩,⟨λa o e=>?_,λa o e=>xe.f _ _ (W.base a o e),λq hq=>?_,?_⟩⟩
 . by_cases q:a=P
   . subst q;(refine bS hT ?_;clear hT;intro ps h1 _);exact⟨_,h1⟩
   . exact⟨o,hx a o q e⟩
 . by_cases q:Nw a
   . exact .inr (hN a q)
   . rw[d7 (P:=Nw) q]at e;exact .inl e
 . by_cases q:Nw a
   . rw[fT (P:=Nw) q]at e;exact e
   . rw[d7 (P:=Nw) q]at e
     exact hx a o (λz=>by rw[z,tF]at e;exact nn e) (W.sub a o e)
 . (refine vb (W.tabs q hq) λh1 h2 ps h3 h4 h5=>?_)
   by_cases z:q.2=P
   . (refine dT hT ?_;clear hT;intro ps' g1 g2 g3)
     refine⟨by refine eW (d7 (P:=Nw) (Sy h3)) ?_;exact h1,h2,ps',by exact eW z<|g1,g2,λpos cv e=>by exact eW z<|g3 pos cv e⟩
   . exact⟨by exact eW (d7 (P:=Nw) (Sy h3))<|h1,h2,ps,hx _ _ z h3,h4,λpos cv e=>(h5 pos cv e).mono xe.f⟩
 . have W':=W.well
   show gI C (G.with h Nw) h G.aw wl;induction hw:G.aw using aA with
   |none=>rw[hw]at W';induction wl using aA<;>first|exact W'.elim|exact trivial
   |some b=>
    rw[hw]at W';induction wl using aA with
    |none=>exact W'.elim
    |some ds=>
     (refine nX W' ?_;clear W';intro h1 vs n h2 r)
     exact⟨by exact eW (d7 (P:=Nw) (Sy h2))<|h1,vs,n,hx _ _ (λz=>tA (by exact eL z<|hw)) h2,r.mono xe⟩
def Ql(C:Cx)(G:Gh)(env:ra)(Hq:List bA)(n:Nat)(cs:List FV):Prop:=
 ∃vs,bB C G vs cs/\vs.length=n/\∀(j:Nat)(x:bA),Hq[j]?=some x->∃c o v,env.cells.lookup x=some c/\G.F c=some o/\o.data=.cell (some v)/\vs[j]?=some v
theorem PJ(W:bz C G wl s.heap)(F:cL C G O sc ns env fr s.heap)(hm:sc.iS.isSome=true)(h1:ns[i]?=some x)(CD:sc.s.names.lookup x=some .cell)(hs:fr[i]?=some (.ro d)):
 ∃c o v,env.cells.lookup x=some c/\G.F c=some o/\o.data=.cell (some v)/\Rep C G v d:=by
 refine gg (F.ro hm i x d h1 hs) λc o e1 e2=>?_
 have uh:env.kindOf x≠some .local:=(F.cl x (by exact eW CD rfl)).elim (λq=>q▸nofun) λq=>q▸nofun
 (refine m_ (F.p9 i x _ h1 hs uh) λ_ c' ov e3 q2=>?_;obtain⟨oc,e4,e5⟩:=q2;intro q1;refine xA q1 ?_;clear q1;intro q3;obtain⟨v,rfl,R⟩:=q3;intro _)
 obtain rfl:=ag (e1.symm.trans e3);obtain rfl:=ag ((W.sub _ _ e2).symm.trans e4);exact⟨c,o,v,e1,e2,e5,R⟩
theorem PK{Hq:List bA}{cs:List FV}(h:qI fr aX=some cs)(ha:((Hq.zip aX).all λp=>ns[p.2]?==some p.1&&(sc.s.names.lookup p.1==some .cell))=true)(hl:Hq.length=aX.length)(hm:sc.iS.isSome=true)(W:bz C G wl s.heap)
 (F:cL C G O sc ns env fr s.heap):Ql C G env Hq aX.length cs:=
 l2 (P:=λaX Hq=>∀cs,qI fr aX=some cs->((Hq.zip aX).all λp=>ns[p.2]?==some p.1&&(sc.s.names.lookup p.1==some .cell))=true->Hq.length=aX.length->Ql C G env Hq aX.length cs) aX Hq
  (λcs h _ _=>sk (P:=λcs=>Ql C G env [] 0 cs) h ⟨[],.nil,rfl,λj x hx=>nn hx⟩)
  (λi r x Hq ih cs h ha hl=>an ha λh1 h2=>an h1 λh1 CD=>ob h λsl h3 h=>ob h λd h4 h=>om (P:=λcs=>Ql C G env (x::Hq) (r.length+1) cs) h λcs' q1=>dT (ih cs' q1 h2 (kM hl)) λvs g1 g2 g3=>
    kP (PJ W F hm (eq_of_beq h1) (eq_of_beq CD) (Slot.VA (P:=λsl=>fr[i]?=some sl->_) h4 (λh=>h) h3)) λc o v e1 e2 e5 R=>⟨v::vs,.cons R g1,congrArg (·+1) g2,λj y hy=>
     j.casesOn (motive:=λj=>(x::Hq)[j]?=some y->∃c o v',env.cells.lookup y=some c/\G.F c=some o/\o.data=.cell (some v')/\(v::vs)[j]?=some v') (λhy=>⟨c,o,v,ag hy▸e1,e2,e5,rfl⟩) (λj hy=>g3 j y hy) hy⟩)
  (λ_ _ _ _ _ hl=>nomatch hl) (λ_ _ _ _ _ hl=>nomatch hl) cs h ha hl
theorem EB{a b:Int}{c:aB}:∀{l:List aB},TriplesOk l->codeAmong pos' (l++[rawInt a,rawInt b,c])=some cv->codeAmong pos' l=some cv\/cv=c:=λ{l} h=>by
 fun_induction TriplesOk l with
 |case1=>
  intro e;simp only[lp,rawInt,codeAmong]at e;split at e
  . cases e;exact .inr rfl
  . exact nn e
 |case2 a' t b' u x rest ih=>
  intro e;simp only[M6,codeAmong]at e⊢;split
  . rename_i hc;rw[if_pos hc]at e;exact .inl e
  . rename_i hc;rw[if_neg hc]at e;exact ih h e
 |case3 l h1 h2=>exact h.elim
open Classical in
theorem H7{n:Nat}(hf:LT[n]?=some f)(h:td sc ns n aX=true):(((f.names.drop (f.names.length-aX.length)).zip aX).all λp=>ns[p.2]?==some p.1&&(sc.s.names.lookup p.1==some .cell))=true:=
 oP h λg hg h=>ag (hg.symm.trans hf)▸h
theorem QD{nm:bA}{fb:FuncBody}{pos:dK}{n fl:Nat}{cs:List FV}(QN:sc.iS=some nm)(CB:Bw n args fb dC aX.length=true)(Pe:td sc ns n aX=true)(FO:qI fr aX=some cs)(H:Here C G O sc ns env fr wl k A s):
 aK C.M A (makeTail name (env.qual++nm) args fb dC env .none .none none pos fl) (λv s'=>PE C G O s (.fv (.mB n cs)) wl v s') ee s:=by
 (refine cO (H.F.iS nm QN) λc P QP kR hq=>?_)
 (refine vb (H.W.tabs _ kR) λtF tA ps hP ht Tr=>?_)
 refine oP CB λf hf CB=>?_
 . have Pe:=H7 hf Pe
   simp only[bY]at CB
   (refine xA CB ?_;clear CB;intro q4;obtain⟨⟨⟨⟨l1,l2⟩,_⟩,_⟩,l5⟩:=q4;intro l6)
   have hdf:f.dflt=[]:=by simpa using l1
   have sd:=l5;unfold rQ at sd;simp only[bY,decide_eq_true_eq]at sd
   (refine xA sd ?_;clear sd;intro q5;obtain⟨⟨⟨⟨⟨⟨⟨sp,nd⟩,hn⟩,sa⟩,sb⟩,U'⟩,acP⟩,QB⟩:=q5;intro _)
   have hdl:(f.names.drop (f.names.length-aX.length)).length=aX.length:=by exact eW oa<|ou (ak (jg _ _) hn)
   refine dT (PK FO Pe hdl (by refine eW QN ?_;rfl) H.W H.F) λvs R Yr hv=>?_
   have wo:∀p∈dC.names,p.2=.free->p.1∈f.names.drop (f.names.length-aX.length):=λp hp hf=>by
    have:=aH.mp U' p hp;rw[hf]at this;simpa using this
   (refine dT (tV (scope:=dC) (env:=env) λp hp hf=>by
     obtain⟨j,hj⟩:=ck.mp (wo p hp hf);obtain⟨c,_,_,e,_⟩:=hv j _ hj;exact⟨c,e⟩) λcl qY Tq K4=>?_)
   have hbm:∃bm o,C.mg "__builtins__"=some (.ref bm)/\bm≠dz/\bm≠bU/\bm≠P/\s.heap.get? bm=some o/\o.cls=.type "module"/\o.dict=some dz/\o.data=.plain:=by
    (refine iH (H.base.bm) λbm o b1 b2 b3 b4 b5=>?_)
    refine⟨bm,o,b1,b2,b3,λe=>?_,H.W.sub _ _ (H.W.base _ _ b4),b5⟩
    have:=H.base.tg _ kR;rw[<-e,b4]at this;exact nn this.symm
   have hgP:bU≠P:=λe=>by
    (refine j8 (H.base.g) λo _ _ ho _=>?_)
    have:=H.base.tg _ kR;rw[<-e,ho]at this;exact nn this.symm
   have hd:CodeHd s.heap c P:=(H.base.hd _ kR).keeps λb o e=>H.W.sub _ _ (H.W.base _ _ e)
   have fin:∀{G':Gh}{fa:aO}{fd:iU}{o:jX},Ext G G'->G'.F fa=some o->o.data=.func fd->fd.params=args->fd.body=fb->fd.scope=dC->fd.globals=bU->fd.builtins=dz->fd.closure=cl->fd.defaults=.none->mX G'.F fd.code fd.qualname->Rep C G' (.ref fa) (.mB n cs):=λ{G' fa fd o} x h1 h2 p1 p2 p3 p4 p5 p6 p7 p8=>by
    refine .mB (f:=f) (fd:=fd) (vs:=vs) hf hdf p7 ⟨⟨o,h1,h2⟩,⟨none,⟨by refine eW p1 ?_;exact l2,by exact eW p3<|eW Yr<|l5,by exact eW p2<|eW p3<|l6⟩,λ_ h=>by exact nn h⟩,p4,p5,p8,λj y hy=>?_,λhv0=>?_⟩ (R.mono x)
    . rw[Yr]at hy
      (refine kP (hv j y hy) λc o v e1 e2 e3 e4=>?_)
      have hm:(y,ix)∈dC.names:=by
       have:=aH.mp sb y (ck.mpr ⟨j,hy⟩);exact mem_of_lookup (by simpa using this)
      exact⟨c,o,v,by exact eW p6<|eW (K4 y hm)<|e1,x.f _ _ e2,e3,e4⟩
    . refine eW p6 ?_
      have hc0:aX=[]:=by
       rw[hv0]at Yr;exact xo Yr.symm
      induction cl using bP with
      |nil=>rfl
      |cons p r=>
       have h3:=wo _ (Tq p a7).1 rfl;rw[hc0]at h3;simp at h3
   induction hca:codeAmong pos ps.toList using aA with
   |none=>
    refine kdv_makeTail qY H.F.glob (uL H) QP hd hP ht hca hgP hbm λc' UL doc h' tk hx hge oo WE htb=>?_
    (refine u_ WE ?_;clear WE;intro c₂ oc q6;refine iP q6 ?_;clear q6;intro cvs t e2 hoc hdc hvc)
    cases e2
    have nw:∀a,(a=h'.objs.size\/a=c')->s.heap.get? a=none:=λa ha=>by
     induction q:s.heap.get? a using aA with
     |none=>rfl
     |some o=>
      have h1:=bb q;rcases ha with rfl|rfl
      . exact absurd h1 (cG.mpr (bW (aQ hge oo)))
      . exact absurd h1 (cG.mpr hge)
    have oc2:∀ob:jX,(h'.push ob).get? c'=some oc:=λob=>a_ _ hoc
    have hCF:mX (G.with (h'.push (kdv_obj name (env.qual++nm) args fb dC cl .none doc ((C.mg "__name__").getD .none) c' UL)) λa=>a=h'.objs.size\/a=c').F (.ref c') (env.qual++nm):=
     ⟨c',oc,cvs,t,rfl,by exact eW (fT (P:=λa=>a=h'.objs.size\/a=c') (.inr rfl))<|oc2 _,hdc,hvc⟩
    have hT:∀pos' cv,codeAmong pos' (ps.toList++[rawInt pos.line,rawInt pos.col,.ref c'])=some cv->codeAmong pos' ps.toList=some cv\/cv=.ref c':=λpos' cv e=>EB ht e
    (refine jN (BR (Nw:=λa=>a=h'.objs.size\/a=c') (tk:=tk) (s:=s) (h:=h'.push (kdv_obj name (env.qual++nm) args fb dC cl .none doc ((C.mg "__name__").getD .none) c' UL)) H.base H.W (λb o hb e=>a_ _ (hx b o hb e)) nw ⟨c,kR⟩
      ⟨_,a_ _ htb,by exact eW qX<|TriplesOk_snoc _ _ _ _ ht,λpos' cv e=>by
        rw[qX]at e;rcases hT pos' cv e with q|rfl
        . exact(Tr pos' cv q).mono (jr H.W.sub nw).f
        . exact eL hq<|hCF⟩) λxe X W'=>?_)
    refine⟨_,X,W',fin xe (o:=kdv_obj name (env.qual++nm) args fb dC cl .none doc ((C.mg "__name__").getD .none) c' UL) ?_ rfl rfl rfl rfl rfl rfl rfl rfl hCF⟩;exact eW (fT (P:=λa=>a=h'.objs.size\/a=c') (.inl rfl))<|bI _ rfl
   |some cv=>
    refine kdv_makeTailHit qY H.F.glob (uL H) QP hd hP ht hca hbm λUL doc h' tk hx QK=>?_
    have nw:∀a,a=h'.objs.size->s.heap.get? a=none:=λa ha=>by
     induction q:s.heap.get? a using aA with
     |none=>rfl
     |some o=>
      have h1:=bb q;rw[ha]at h1;exact absurd h1 (cG.mpr QK)
    (refine jN (BR (Nw:=λa=>a=h'.objs.size) (tk:=tk) (s:=s) (h:=h'.push {cls:=.type "function",data:=.func (kdv_fn name (env.qual++nm) args fb dC cl .none doc ((C.mg "__name__").getD .none) cv UL)}) H.base H.W (λb o hb e=>a_ _ (hx b o e)) nw ⟨c,kR⟩
      ⟨ps,a_ _ (hx _ _ hP),ht,λpos' cv' e=>(Tr pos' cv' e).mono (jr H.W.sub nw).f⟩) λxe X W'=>?_)
    refine⟨_,X,W',fin xe (o:={cls:=.type "function",data:=.func (kdv_fn name (env.qual++nm) args fb dC cl .none doc ((C.mg "__name__").getD .none) cv UL)}) ?_ rfl rfl rfl rfl rfl rfl rfl rfl ?_⟩
    . exact eW (fT (P:=λa=>a=h'.objs.size) rfl)<|bI _ rfl
    . have:=(Tr pos cv hca).mono xe.f
      dsimp only at this;rw[<-hq]at this;exact this
theorem Ma{l:List Arg}(h:(l.all (·.annotation.isNone))=true):annotationsOf l env=[]:=by
 induction l with
 |nil=>rfl
 |cons x r ih=>
  rw[Um,bY]at h;obtain⟨y,a,p⟩:=x
  (refine xA h ?_;clear h;intro h1 h2)
  induction a using aA with
  |none=>exact ih h2
  |some a=>exact ff h1
theorem zq{a:Arguments}(h:jQ a f=true):annTrees a none env=[]:=by
 unfold jQ at h;simp only[bY]at h
 (refine xA h ?_;clear h;intro q7;obtain⟨⟨⟨⟨⟨h1,h2⟩,h3⟩,h4⟩,_⟩,_⟩:=q7;intro h7)
 obtain⟨po,as,va,ko,kd,kwa,df⟩:=a
 have e1:po=[]:=by simpa using h1
 have e2:va=none:=by simpa using h2
 have e3:ko=[]:=by simpa using h3
 have e4:kwa=none:=by simpa using h4
 subst e1 e2 e3 e4
 show annotationsOf (as++[]++[]++[]++[]) env++[]=[];simp only[cC];exact Ma h7
theorem KJ{n:Nat}{fb:FuncBody}(CB:Bw n args fb dC m=true):args.defaults=[]/\args.kw_defaults=[]/\∃f,jQ args f=true:=by
 exact oP CB λf hf CB=>Mb CB λ_ l2 l3 l4 _ _=>⟨fe.mp l3,fe.mp l4,_,l2⟩
theorem Vk{body:af}{pos:dK}{n:Nat}(QN:sc.iS=some "<lambda>")(CB:Bw n args (.expr body) dC aX.length=true)(Pe:td sc ns n aX=true):
 dS C bp k sc ns (.Lambda args body dC pos) (.lam n aX):=by
 refine .mk' (λG O env A s fr wl e bQ q H=>?_) (λ_ _=>rfl) (λ_ _=>dg rfl) rfl;rw[TH]at q;refine tM q λcs q1=>?_
 (refine jN (KJ CB) λd1 d2 _=>?_)
 refine kla_eval (by refine eW (defaultsOf_eq ..)<|eW d1<|eW d2 ?_;rfl) ?_;refine eW (YI ..) ?_;simp only[IW,IY,og,if_true,pure_bind];exact QD QN CB Pe q1 H
theorem R9{body:List bV}{pos:dK}{n:Nat}(QN:sc.iS=some name)(CB:Bw n args (.stmts body) dC aX.length=true)(Pe:td sc ns n aX=true)(hx:ns[i]?=some name):
 jw C bp N k sc ns (.FunctionDef name args body [] none [] dC none name pos) (.defn i n aX):=λG O env A s fr wl fl cJ bQ q H=>ob q λcs q1 q=>MM q λf_ q2=>by
 (refine mF (KJ CB) λd1 d2 f hp=>?_)
 have Yv:(env.kindOf name==some .globalExplicit)=false:=by
  have hl:i<fr.length:=H.F.len.symm▸fB hx;by_cases hk:env.kindOf name=some .local
  · exact eW hk rfl
  . rcases(H.F.p9 i name _ hx (aV hl) hk).1 with q|q<;>refine eW q ?_<;>rfl
 have hqn:qualnameIn env name name=env.qual++name:=by unfold qualnameIn;exact eW Yv rfl
 refine nestDef_K d1 d2 (zq hp) ?_;refine eW hqn<|eW (YI ..) ?_;simp only[IW,IY,og,if_true,pure_bind];refine cX (QD QN CB Pe q1 H) λv aM q8=>dT q8 λG1 x1 W1 R1=>?_;exact iZ x1.o W1 (H.F.step x1) hx q2 rfl ⟨v,rfl,R1⟩ λs' X' W' F' _=>PU.next ⟨G1,O,X',W',F'⟩
end
section
variable {G0:Gh}
noncomputable def vn:Option Role->Option Role
 |some (.own j κ)=>some (.own (j+1) κ)
 |r=>r
theorem nW.shift{e:EV}(x:nW C G O bq h i v e):nW C G O (λa=>vn (bq a)) h (i+1) v e:=match e,x with
 |.fv _,x=>x
 |.bor _,x=>x
 |.own t,x=>show dM C G (λa=>vn (bq a)) h (λk=>some (.own (i+1) k)) v t from dM.relabel (λa k e=>by simp only[e];rfl) (show dM C G bq h (λk=>some (.own i k)) v t from x)
theorem dB.shift{es:List EV}(y:dB C G O bq h i vs es):dB C G O (λa=>vn (bq a)) h (i+1) vs es:=y.ind (λ_=>trivial) λ_ _ _ _ _ y _ ih=>⟨y.shift,ih⟩
def wh(xa da:aO)(bq:aO->Option Role)(a:aO):Option Role:=
 if a=xa then some (.own 0 n3)else if a=da then some (.own 0 1)else vn (bq a)
theorem vm{q:Option Role}{r:Role}(e:vn q=some r)(m:∀r,q=some r->∃j κ,r=.own j κ):∃j κ,q=some (.own j κ)/\r=.own (j+1) κ:=by
 induction q using aA with
 |none=>exact nn e
 |some r'=>
  (refine u_ (m r' rfl) λj κ q1=>?_;subst q1)
  cases e;exact⟨j,κ,rfl,rfl⟩
theorem Ib{xs:List EV}{r:FV}
 (B:Base C)(HQ:(CT c).isSome=true)(hd:A.depth+8*k+26<900)(hu:A.units+24*k+80<9000)(hh:A.handled=none)
 (W:bz C G wl s.heap)(FA:FnAt C G.F fa f [] fd)(x:Step C G0 G s0 s)(D0:I1 C G0 O s0.heap)
 (T:u7 C G O s0.heap s.heap 0 vals xs)(Rd:bB C G dv f.dflt)(dl:dv.length<=f.params)
 (hs:∀(s:aN),y8 G s.heap->∀(M:Model)(A:fF)(E:aB->aN->Prop)(Q:Option (Array aB)->aN->Prop),(∀r:Option (Array aB),(r.getD #[]).toList=dv->Q r s)->aK M A (seqItems? fd.defaults) Q E s)
 (hb:∀iS,CF f 0 iS fd->Co C bp N k f iS fd)(he:runC bp N c f xs wl=some (r,bQ)):
 codeAny C.M A (.call (.ref fa) ⟨.ref (s.heap.objs.size+1)::vals,[]⟩) (λres s'=>match res with
  |.ok (.ret v)=>v=.none/\PE C G0 O s0 (.fv r) bQ (.ref (s.heap.objs.size+1)) s'
  |_=>False) {s with heap:=(s.heap.push emptyDict).push (instObj c s.heap.objs.size)}:=by
 refine ob he λfr hf he=>bS T λbq m R=>bS FA.cf λiS cf hm=>?_
 have kp:∀a o,s.heap.get? a=some o->((s.heap.push emptyDict).push (instObj c s.heap.objs.size)).get? a=some o:=λa o e=>a_ _ (a_ _ e)
 have x1:Step C G G s {s with heap:=(s.heap.push emptyDict).push (instObj c s.heap.objs.size)}:=.grow _ s.toks kp
 have hx:((s.heap.push emptyDict).push (instObj c s.heap.objs.size)).get? (s.heap.objs.size+1)=some (instObj c s.heap.objs.size):=by heap_get
 have hdx:((s.heap.push emptyDict).push (instObj c s.heap.objs.size)).get? s.heap.objs.size=some emptyDict:=by heap_get
 have n1:s.heap.get? (s.heap.objs.size+1)=none:=by
  induction q:s.heap.get? (s.heap.objs.size+1)using aA with
  |none=>rfl
  |some o=>exact absurd (bb q) (cG.mpr (ip _))
 have n2:s.heap.get? s.heap.objs.size=none:=by
  induction q:s.heap.get? s.heap.objs.size using aA with
  |none=>rfl
  |some o=>exact absurd (bb q) (b9 _)
 have old:∀a,s.heap.get? a=none->s0.heap.get? a=none:=λa e=>by
  induction q:s0.heap.get? a using aA with
  |none=>rfl
  |some o=>(refine xE (x.alive a o q) λo' e'=>?_);rw[e]at e';exact nn e'
 have W1:bz C G wl ((s.heap.push emptyDict).push (instObj c s.heap.objs.size)):=W.grow kp
 have mo:∀a r,bq a=some r->a≠s.heap.objs.size+1/\a≠s.heap.objs.size:=λa r e=>by
  (refine ng (m a r e) λ_ _ _ _ o ho=>?_)
  exact⟨λq=>(by rw[q,n1]at ho;exact nn ho),λq=>(by rw[q,n2]at ho;exact nn ho)⟩
 have mw:Cv C G s0.heap ((s.heap.push emptyDict).push (instObj c s.heap.objs.size)) (wh (s.heap.objs.size+1) s.heap.objs.size bq):=λa r e=>by
  unfold wh at e;split at e
  . rename_i q;subst q;cases e
    exact⟨old _ n1,⟨_,_,rfl⟩,kg W n1,gx W n1,_,hx⟩
  . split at e
    . rename_i q;subst q;cases e
      exact⟨old _ n2,⟨_,_,rfl⟩,kg W n2,gx W n2,_,hdx⟩
    . (refine gg (vm e λr e=>let⟨_,⟨j,κ,q,_⟩,_⟩:=m a r e;⟨j,κ,q⟩) λj κ e1 q2=>?_;subst q2)
      (refine ng (m a _ e1) λq1 _ q3 q4 o q5=>?_)
      exact⟨q1,⟨_,_,rfl⟩,q3,q4,o,kp _ _ q5⟩
 have R1:dB C G O (wh (s.heap.objs.size+1) s.heap.objs.size bq) ((s.heap.push emptyDict).push (instObj c s.heap.objs.size)) 0 (.ref (s.heap.objs.size+1)::vals) (.own (.inst c [])::xs):=by
  refine⟨⟨HQ,s.heap.objs.size+1,s.heap.objs.size,[],0,rfl,if_pos rfl,gx W n1,kg W n1,hx,?_,gx W n2,kg W n2,bx (bg _),hdx,trivial,eC⟩,?_⟩
  . unfold wh;exact eW (if_neg (bx (bg _)))<|eW (if_pos rfl) rfl
  . refine dB.relabel (λa j κ hj e=>?_) (dB.step x1 R.shift)
    unfold wh
    have:∃r,bq a=some r:=by induction q:bq a using aA with|none=>rw[q]at e;exact nn e|some r=>exact⟨r,rfl⟩
    (refine xE this ?_;clear this;intro r hr)
    exact eW (if_neg (mo a r hr).1)<|eW (if_neg (mo a r hr).2)<|e
 have only:∀a,wh (s.heap.objs.size+1) s.heap.objs.size bq a=some (.own 0 n3)->a=s.heap.objs.size+1:=λa e=>by
  unfold wh at e;split at e
  . assumption
  . split at e
    . cases e
    . (refine gg (vm e λr e=>let⟨_,⟨j,κ,q,_⟩,_⟩:=m a r e;⟨j,κ,q⟩) λj κ _ q=>?_)
      cases q
 refine yN (fr:=fr) B hd hu hh W1 FA cf hm (x.trans x1) D0 mw R1 Rd (aX:=[]) .nil dl (hs _ W1.sub) hf λenv s' H Cz=>?_
 have out:=yk (fr:=fr) (O:=O) (f:=f) (fd:=fd) (x.trans x1) mw
 have UH:=hb iS cf;unfold Co at UH;induction hfb:f.body using Body.casesOn with
 |expr e=>rw[hfb]at he;exact nn he
 |stmts ib=>
  rw[hfb]at he UH;induction Tp:fd.body using g7 with
  |expr e=>rw[Tp]at UH;exact UH.elim
  |stmts b=>
   rw[Tp]at UH;refine f9 he λfl st To D5=>dU D5 λhnx D5=>ob D5 λt0 h1 D5=>tM D5 λYD h2=>?_
   have eE:st.1[0]?=some (.own (.inst YD.1 YD.2)):=ob h1 λsl g1 g2=>(Slot.vw (P:=λsl=>st.1[0]?=some sl->_) g2 (OT.rO (P:=λt=>st.1[0]?=some (.own t)->_) h2 λh=>h)) g1;refine PS.to (UH _ _ env (A.deeper env) s' fr wl fl st.1 st.2 To H) λXp s2 G2 O2 y1 W2 F2 hfl=>?_;induction fl using Fl.casesOn with
   |cont=>exact ff hnx
   |ret d=>exact ff hnx
   |next=>
   induction Xp using Flow.casesOn<;>first|exact hfl.elim|skip
   have hl:0<st.1.length:=fB eE;obtain⟨y,hy⟩:∃y,f.names[0]?=some y:=⟨_,aV (F2.len▸hl)⟩
   have hT:∃v,dM C G2 O2 s2.heap (λκ=>some (.own 0 κ)) v (.inst YD.1 YD.2):=by
    by_cases hk:env.kindOf y=some .local
    · (refine bS (F2.loc) λmm _ q=>?_)
      (refine bS (q 0 y _ hy eE hk) λv _ t=>?_)
      exact⟨v,t⟩
    . (refine m_ (F2.p9 0 y _ hy eE hk) λ_ _ ov _ _ q3=>?_;refine xA q3 ?_;clear q3;intro q4;obtain⟨v,_,t⟩:=q4;intro _)
      exact⟨v,t⟩
   (refine xE hT ?_;clear hT;intro v t)
   have hv:v=.ref (s.heap.objs.size+1):=by
    (refine Us t ?_;clear t;intro _ a q5;refine jM q5 ?_;clear q5;intro _ _ _ q6;subst q6;intro hO _)
    have e1:=y1.Nv a 0 hO;unfold vj nN at e1;exact congrArg uu (se e1 (λ_ e=>nomatch e) λ_ e=>Qx e (λe=>Ap e λ_ _ e=>nomatch e) λe=>Qx e (only a) λe=>Ap e λ_ _ e=>nomatch e)
   subst hv
   classical
   have hP:∀a,(∃κ,O2 a=some (Role.own 0 κ))->∃r,O2 a=some r/\r≠.ki:=λa q7=>xE q7 λκ e=>⟨_,e,by intro e;exact Role.noConfusion e⟩
   (refine xA (TA (P:=λa=>∃κ,O2 a=some (Role.own 0 κ)) W2 F2.iK hP) λW3 y3=>?_)
   have xg:=rP (P:=λa=>∃κ,O2 a=some (Role.own 0 κ)) F2.iK hP
   have y2:=bX.out ((x.trans x1).trans Cz) (y1.trans y3) out;exact⟨rfl,_,y2,W3,t.fz xg λa κ e o ho=>by exact eW (fT (P:=λa=>∃κ,O2 a=some (Role.own 0 κ)) ⟨κ,e⟩)<|ho⟩
end
section
variable {G0:Gh}
theorem wF{M:Model}{Q:Option (Array aB)->aN->Prop}(h:fd.defaults=.none)(q:∀r:Option (Array aB),(r.getD #[]).toList=[]->Q r s):aK M A (seqItems? fd.defaults) Q E s:=by
 exact eW h<|ar (q none rfl)
theorem yQ{M:Model}{Q:Option (Array aB)->aN->Prop}(d:Dflts B fd dv)(b:∀a o,B.get? a=some o->s.heap.get? a=some o)
 (q:∀r:Option (Array aB),(r.getD #[]).toList=dv->Q r s):aK M A (seqItems? fd.defaults) Q E s:=by
 rcases d with⟨h,rfl⟩|⟨T,o,n,h,ho,hd⟩
 . exact wF h q
 . refine eW h ?_
   obtain⟨oc,od,dt,sl⟩:=o;dsimp only at hd;subst hd;exact ai (Uc (b _ _ ho) (ar (q _ rfl)))
theorem Fh{f:aB}{r:FV}(h:codeAny C.M A (.call f ⟨vals,[]⟩) (PR C G O s0 r bQ) s):aK C.M A (call f vals []) (PE C G O s0 (.fv r) bQ) ee s:=
 Ud (kH h λr s' z=>by
  rcases r with e|(v|_|_|_)<;>first|exact z|exact z.elim)
theorem FE(FA:FnAt C F a f vs fd)(b:∀a o,F a=some o->h.get? a=some o):pn C.M (.ref a) h:=by
 (refine bS (FA.obj) λo ho hd=>?_)
 exact OK (b _ _ ho) hd
theorem GK(a:aO)(rest:List aB)(kw:List (bA×aB)):(t_ "type.__call__" ⟨.ref a::rest,kw⟩).weight=1/\(t_ "type.__call__" ⟨.ref a::rest,kw⟩).cUnits=1:=by
 refine⟨?_,?_⟩<;>kernel_rfl
theorem H_(hb:∀(bp:my)(k:Nat),w_ C bp k->∀(f:bw)(n:Nat)(iS:Option bA)(fd:iU),CF f n iS fd->Co C bp N k f iS fd)(ih:w_ C (au N k) k):w_ C (au N (k+1)) (k+1):=λd xs wl r bQ q G0 G O s0 s A f vals B hh hd hu W x D0 R T=>
 have ui:A.depth+8*k+26<900:=aQ (ct (show 26<=28 by decide) (A.depth+8*k)) hd
 have hu':A.units+24*k+80<9000:=aQ (ct (show 80<=84 by decide) (A.units+24*k)) hu
 FV.casesOn (motive_1:=λd=>au N (k+1) d xs wl=some (r,bQ)->Rep C G f d->pn C.M f s.heap/\aK C.M A (call f vals []) (PE C G0 O s0 (.fv r) bQ) ee s) d
  (λq=>nn q) (λ_ q=>nn q) (λ_ q=>nn q) (λ_ q=>nn q) (λ_ q=>nn q) (λ_ q=>nn q) (λ_ q=>nn q) (λ_ q=>nn q) (λ_ _ q=>nn q)
  (λa q R=>by
    obtain rfl:=R.inv.1;refine oe q (λhf q=>ob q λg hc q=>?_) λg hf q=>?_
    . refine fA (B.cls a g hc) λc1 c2 _ q1=>fS q1 λi fd dv c3 c4 FA Rd Dd dl=>?_
      have X:C.K.In s.heap:=B.QF.keeps λb o e=>W.sub _ _ (W.base _ _ e);refine⟨keeps_K c2 _ X,Ud ?_⟩;refine xA (GK a vals []) λw1 w2=>?_;obtain⟨hp,g',d',t',os'⟩:=s;refine make_core (makes_of X c1) (looks_findIn X c3) (λself=>bind_fn X self c4) (.inl rfl) ?_;refine kH (Ib (s:=⟨hp,g',d',t',os'⟩) (A:=A.under (.builtin "type.__call__" ⟨.ref a::vals,[]⟩)) B (by exact eW hc rfl) ?_ ?_ hh W (FA.mono W.base) x D0 T (Rd G W.base) (eW (Rd G W.base).length dl) (λs b M A E Q q=>yQ Dd (λa o e=>b _ _ (W.base _ _ e)) q) (λiS cf=>hb _ k ih g _ iS fd cf) q) λr s' z=>?_
      . show A.depth+(t_ "type.__call__" ⟨.ref a::vals,[]⟩).weight+8*k+26<900
        refine eW w1 ?_;lia
      . show A.units+(t_ "type.__call__" ⟨.ref a::vals,[]⟩).cUnits+24*k+80<9000
        refine eW w2 ?_;lia
      . rcases r with e|(v|_|_|_)<;>first|exact z.elim|exact z
    . exact iP (B.fn a g hf) λfd dv FA Rd Dd dl=>have FA':=FA.mono W.base
       bS FA'.cf λiS cf hm=>⟨FE FA' W.sub,Fh (Gg B ui hu' hh W FA' cf hm x D0 T (Rd G W.base) .nil (eW (Rd G W.base).length dl) (λM A E Q q=>yQ Dd (λa o e=>W.sub _ _ (W.base _ _ e)) q) (hb _ k ih g _ iS fd cf) q)⟩)
  (λj aX q R=>ob q λg hg q=>R.inv.elim λa y=>Az y λf' fd vs y=>kI y λe hl hdf hdd z=>by
    subst e;obtain rfl:=ag (hl.symm.trans hg);exact xA z λFA Rc=>bS FA.cf λiS cf hm=>
     ⟨FE FA W.sub,Fh (Gg B ui hu' hh W FA cf hm x D0 T (dv:=[]) (by exact eW hdf .nil) Rc (aU _) (λM A E Q q=>wF hdd q) (hb _ k ih _ _ iS _ cf) q)⟩)
  (λ_ _ _ q=>nn q) (λq=>nn q) q R
theorem LU(B:Base C)(hb:∀(bp:my)(k:Nat),w_ C bp k->∀(f:bw)(n:Nat)(iS:Option bA)(fd:iU),CF f n iS fd->Co C bp N k f iS fd)(k:Nat):w_ C (au N k) k:=
 k.rec (λd xs wl r bQ q=>nn q) λk ih=>H_ hb ih
end
section
variable {lo:y5}
structure SortS(C:Cx):Prop where
 ok:Mi C
@[elab_as_elim] theorem Pt{P:List aB->Prop}(T:u7 C G O h₀ h i vs [.bor t])(k:∀v,cE C G O h₀ h v (.bor t)->P [v]):P vs:=
  bS T λbq m R=>Xs R k
theorem JD{pos:dK}{own:Bool}(so:SortS C)(hx:sc.s.names.lookup x=some .globalImplicit)(he:x=BI.sorted.word)(hg:GT.lookup x=none)(L:fO (dS C bp k sc ns) es il):
 dS C bp k sc ns (.Call (.Name x p) es [] pos) (.bj .sorted own il):=
 .mk' (λG O env A s fr wl e bQ q H=>f9 q λxs w1 q1 q=>tM (P:=λe bQ=>aK C.M A _ (PE C G O s e bQ) ee s) q λy q2=>by
  subst he;refine tf hx (by decide+kernel) (H.base.free .sorted hg) (H.base.bi .sorted) (BI.E1 .sorted) L q1 H λvs G1 aM x1 W1 T=>?_;exact(qK (P:=λxs=>u7 C G1 O s.heap aM.heap 0 vs xs->aK C.M A (call BI.sorted.val vs) (PE C G O s y w1) ee aM) q2 λa e T=>om (P:=λy=>aK C.M A (call BI.sorted.val vs) (PE C G O s y w1) ee aM) e λis q3=>ob q3 λt h1 h2=>
   (Gl (P:=λa=>u7 C G1 O s.heap aM.heap 0 vs [a]->Dl a=some is->_) h1 λT q3=>Pt (P:=λvs=>aK C.M A (call BI.sorted.val vs) _ ee aM) T λv R=>cX (so.ok H.room.handled W1 R q3) λv b0 h=>h.after x1) T q3) T) (λ_ _=>rfl) (λ_ _=>dg rfl) rfl
theorem Fx(h:Du x=true):(x==("__debug__":bA))=false/\(x==("__classdict__":bA))=false:=by
 unfold Du at h;rw[bY]at h;exact⟨by simpa using h.1,by simpa using h.2⟩
theorem tN(h:vG ns i x=true)(k:ns[i]?=some x->(x==("__debug__":bA))=false->(x==("__classdict__":bA))=false->P):P:=
 an h λh1 h2=>k (eq_of_beq h1) (Fx h2).1 (Fx h2).2
@[elab_as_elim] theorem VB{P:af->Prop}(h:A9 e=true)(f:∀n p1 p2 p3,P (.Slice none none (some (.UnaryOp .USub (.Constant (.int 1) n p1) p2)) p3)):P e:=
  KY h λa b c p3 h=>rW h λha hb hc=>oN ha<|oN hb<|oS hc λe h=>BL h λo e p2 h=>an h λho h=>CG ho<|yB h λc n p1 h=>CG h (f n p1 p2 p3)
@[elab_as_elim] theorem vt{P:cR->Prop}{c:cR}(h:(c.is_async==0&&c.ifs.isEmpty)=true)(f:P ⟨c.target,c.iter,[],0⟩):P c:=match c,h,f with
  |⟨t,i,ifs,n⟩,h,f=>an h λh1 h2=>CG (P:=λn=>P ⟨t,i,ifs,n⟩) h1 (l0 (P:=λifs=>P ⟨t,i,ifs,0⟩) h2 f)
theorem SP{c:Const}(h:(uW c).any (λd'=>su d' d)=true):uW c=some d:=oS h λa h=>congrArg some (sr a d h)
theorem nf(h:(!b)=true):b=false:=match b,h with|false,_=>rfl
theorem V0(h:(x !=y)=true):(x==y)=false:=nf h
@[elab_as_elim] theorem Gp{P:af->IE->Prop}{x:af}{Q:IL->Prop}(h:fO P [x] il)(k:∀a,P x a->Q (.cons a .nil)):Q il:=match il,h with
  |.cons a .nil,h=>k a h.1
  |.cons _ (.cons _ _),h=>h.2.elim
  |.nil,h=>h.elim
@[elab_as_elim] theorem all_nil{P:af->IE->Prop}{Q:List af->IL->Prop}(h0:es.isEmpty=true)(h:fO P es il)(k:Q [] .nil):Q es il:=match es,il,h0,h with
  |[],.nil,_,_=>k
@[elab_as_elim] theorem Me{P:af->IE->Prop}{Q:List af->IL->Prop}(h0:one es (λ_=>true)=true)(h:fO P es il)(k:∀x a,P x a->Q [x] (.cons a .nil)):Q es il:=
  pY (P:=λes=>fO P es il->Q es il) h0 (λx _ h=>Gp h (k x)) h
theorem drop_nil{d:Nat}(e:gens.drop d=gs)(h:gs.isEmpty=true):gens[d]?=none:=
 l0 (P:=λgs=>gens.drop d=gs->gens[d]?=none) h (λe=>Qg.symm.trans (congrArg Y' e)) e
theorem GZ{pos:dK}{own:Bool}{b:BI}(so:SortS C)(q:b=.sorted)(hx:sc.s.names.lookup x=some .globalImplicit)(he:x=b.word)(hg:GT.lookup x=none)(L:fO (dS C bp k sc ns) es il):
 dS C bp k sc ns (.Call (.Name x p) es [] pos) (.bj b own il):=by
 subst q;exact JD so hx he hg L
def US(C:Cx)(bp:my)(k:Nat)(sc:Sc)(ns:List bA)(e:af)(ir:IE):Prop:=dS C bp k sc ns e ir/\(qE e=true->P8 C bp k sc ns e ir)
theorem US.of(h:dS C bp k sc ns e ir)(n:qE e=false):US C bp k sc ns e ir:=⟨h,λq=>by rw[n]at q;exact ff q⟩
section
variable (so:SortS C)(hc:w_ C bp k)(hl:∀k args fb dC n,lo k args fb dC n=true->Bw k args fb dC n=true)
include so hc hl
omit so hc hl in
theorem Qo{l:IE}{x:Option af}(i:∀(sc:Sc)(ns:List bA)(e:af),eB lo l sc ns e=true->US C bp k sc ns e l)(h:x.elim (jR l) (λx=>eB lo l sc ns x)=true):Cn C bp k sc ns x l:=
 x.casesOn (motive:=λx=>x.elim (jR l) (λx=>eB lo l sc ns x)=true->Cn C bp k sc ns x l) (λh=>(lit_none h).symm▸Nu) (λx h=>Nt (i sc ns x h).1) h
omit so hc hl in
@[elab_as_elim] theorem Xw{P:cR->Prop}{c:cR}(h:(c.is_async==0)=true)(f:P ⟨c.target,c.iter,c.ifs,0⟩):P c:=by
  induction c using XW;exact CG (P:=λn=>P ⟨_,_,_,n⟩) h f
theorem oU(ir:IE):∀(sc:Sc)(ns:List bA)(e:af),eB lo ir sc ns e=true->US C bp k sc ns e ir:=
 IE.rec (motive_1:=λir=>∀(sc:Sc)(ns:List bA)(e:af),eB lo ir sc ns e=true->US C bp k sc ns e ir)
  (motive_2:=λil=>∀(sc:Sc)(ns:List bA)(es:List af),qH lo il sc ns es=true->fO (dS C bp k sc ns) es il)
  (motive_3:=λg=>∀(sc:Sc)(ns:List bA)(elt:af)(gens gs:List cR)(scope:jD)(pos:dK)(d:Nat),gens.drop d=gs->(∀g∈gens,g.is_async=0)->TR lo g sc ns gs elt=true->Ip C bp k sc ns elt gens scope pos d g)
  (λi sc ns e h=>kL h λx p h=>tN h λh h1 h2=>.of (Qr h h1 h2) rfl)
  (λd sc ns e h=>yB h λc n p h=>.of (Vj (SP h)) rfl)
  (λd sc ns e h=>kL h λx p h=>rW h λh1 h2 h3=>.of (Vn (eq_of_beq h1) h2 (V0 h3)) rfl)
  (λop a b zX OY sc ns e h=>Td h λl o r p h=>rW h λh0 h1 h2=>CG h0<|.of (Vq (zX sc ns l h1).1 (OY sc ns r h2).1) rfl)
  (λop a zX sc ns e h=>BL h λo x p h=>an h λh0 h1=>CG h0<|.of (Zn (zX sc ns x h1).1) rfl)
  (λil lO sc ns e h=>FJ h λo es p h=>an h λh0 h1=>CG h0<|.of (Vs (lO sc ns es h1)) rfl)
  (λil lO sc ns e h=>FJ h λo es p h=>an h λh0 h1=>CG h0<|.of (Zo (lO sc ns es h1)) rfl)
  (λop a b zX OY sc ns e h=>BM h λl os rs p h=>rW h λh0 h1 h2=>pY h0 λo h0=>CG h0<|pY h2 λr h2=>an h2 λh2 h3=>.of (Vp (zX sc ns l h1).1 (OY sc ns r h2).1 h3) rfl)
  (λo1 o2 a b c zX OY i_c sc ns e h=>BM h λl os rs p h=>rW h λh0 h1 h2=>RL h0 λp1 p2 h0=>an h0 λh0 QX=>CG h0<|CG QX<|RL h2 λr1 r2 h2=>rW h2 λh2 h3 h4=>.of (NI (zX sc ns l h1).1 (OY sc ns r1 h2).1 (i_c sc ns r2 h3).1 h4) rfl)
  (λt a b i_t zX OY sc ns e h=>Tc h λx y z p h=>rW h λh1 h2 h3=>.of (Vl (i_t sc ns x h1).1 (zX sc ns y h2).1 (OY sc ns z h3).1) rfl)
  (λa i zX i_i sc ns e h=>iT h λv s p h=>rW h λh1 h2 h3=>.of (Vm (zX sc ns v h1).1 (i_i sc ns s h2).1 h3) rfl)
  (λa l r zX i_l i_r sc ns e h=>iT h λv s p h=>an h λh1 h=>KY h λx y z p h=>rW h λh0 h2 h3=>oN h0<|.of (Vc (zX sc ns v h1).1
    (Qo i_l h2) (Qo i_r h3)) rfl)
  (λa zX sc ns e h=>iT h λv s p h=>an h λh1 h2=>VB h2 λ_ _ _ _=>.of (Ve (zX sc ns v h1).1) rfl)
  (λa j zX sc ns e h=>jU h λv x p h=>Mc h λh1 h2 h3 h4=>.of (Sb (zX sc ns v h1).1 (eq_of_beq h2) (of_decide_eq_true h3) h4) rfl)
  (λil lO sc ns e h=>sN h λes _ _ h=>an h λh1 h2=>.of (Vb (lO sc ns es h1) (of_decide_eq_true h2)) rfl)
  (λown il lO sc ns e h=>KZ h λes _ h=>an h λh1 h2=>.of (Vi (lO sc ns es h1) (of_decide_eq_true h2)) rfl)
  (λil lO sc ns e h=>ZT h λes n _ h=>an h λh0 h=>aaS h0<|pY h λx h=>Gp (lO sc ns [x] h) λa h=>.of (RY h) rfl)
  (λsc ns e h=>Wz h λa b _ h=>an h λh1 h2=>l0 h1<|l0 h2<|.of NG rfl)
  (λa b zX OY sc ns e h=>KZ h λes _ h=>RL h λx y h=>an h λh1 h2=>.of (JE (zX sc ns x h1).1 (OY sc ns y h2).1) rfl)
  (λf il i_f lO sc ns e h=>yC h λg args kw _ h=>Mc h λh0 h1 h2 h3=>l0 h0<|.of (s_call hc (i_f sc ns g h1).1 h2 (lO sc ns args h3)) rfl)
  (λb own il lO sc ns e h=>yC h λg args kw _ h=>rW h λh0 h1 h2=>l0 h0<|kL h2 λx p h=>rW h λh2 h3 h4=>
    if q:b=.sorted then .of (GZ so q (eq_of_beq h2) (eq_of_beq h3) (d_.mp h4) (lO sc ns args h1)) rfl else .of (NJ q (eq_of_beq h2) (eq_of_beq h3) (d_.mp h4) (lO sc ns args h1)) rfl)
  (λm o il ZR lO sc ns e h=>yC h λg args kw pos h=>rW h λh0 h4 h=>l0 h0<|jU h λv x p h=>Mb h λh1 h2 h3 h5 h6 h7=>CG h2<|match m,h7 with
  |.user j,_=>.of (R4 hc (ZR sc ns v h1).1 rfl h3 (lO sc ns args h4) h5 (of_decide_eq_true h6)) rfl
  |.strip,h7=>an h7 λh7 h8=>all_nil h8 (lO sc ns args h4) (.of (ND (ZR sc ns v h1).1 h7 h5) rfl)
  |.count,h7=>an h7 λh7 h8=>Me h8 (lO sc ns args h4) λx a h=>.of (NH (ZR sc ns v h1).1 h h7 h5) rfl)
  (λown m aX it f7 il g D1 lO ZS sc ns e h=>yA h λelt gs dC pos h=>BO h λc gs h=>RS h λlv Ar h=>TZ h λh0 h1 h2 h3 h4 h5 h=>an h λh6 h7=>Xw (P:=λc=>US C bp k sc ns (.ListComp elt (c::gs) dC pos) _) h0<|
    have IM:∀g∈(⟨c.target,c.iter,c.ifs,0⟩::gs:List cR),g.is_async=0:=λg hg=>(a6.mp hg).elim (λe=>e▸rfl) λhg=>eq_of_beq (aH.mp h7 g hg)
    have R:=xY.list (pos:=pos) (JK (own:=own) Ar (D1 sc ns c.iter h1).1 h2 h3 h4 (lO _ _ c.ifs h5) IM (ZS _ _ _ _ _ _ _ 1 rfl IM h6)) λ_ _=>dg rfl
    ⟨R.1,λ_=>R.2⟩)
  (λm aX it f7 D1 sc ns e h=>yA h λelt gs dC pos h=>KZ h λes p h=>pY h λc h=>RS h λlv Ar h=>Mb h λh0 QX h1 h2 h3 h4=>l0 h0<|vt QX<|
    have R:=xY.list (pos:=pos) (C4 (p:=p) Ar (D1 sc ns _ h1).1 h2 h3 h4) λ_ _=>dg rfl
    ⟨R.1,λ_=>R.2⟩)
  (λown m aX it f7 v D1 i_v sc ns e h=>HN h λke w gs dC pos h=>kL h λx p h=>pY h λc h=>RS h λlv Ar h=>TZ h λh0 h1 h2 h3 h4 h5 h6=>vt h0<|tN h5 λh5 n1 n2=>
    have R:=xY.dict (pos:=pos) (Ha (p:=p) (own:=own) Ar (D1 sc ns _ h1).1 h2 h3 h4 h5 n1 n2 (i_v _ _ w h6).1) λ_ _=>dg rfl
    ⟨R.1,λ_=>R.2⟩)
  (λj aX sc ns e h=>OZ h λargs body dC _ h=>rW h λh1 h2 h3=>.of (Vk (eq_of_beq h1) (hl _ _ _ _ _ h2) h3) rfl)
  (λsc ns es h=>l0 h trivial) (λa il i j sc ns es h=>BO h λe es h=>an h λh1 h2=>⟨(i sc ns e h1).1,j sc ns es h2⟩)
  (λa i sc ns elt gens gs scope pos d e IM h=>an h λh0 h=>Tv (drop_nil e h0) (i sc ns elt h).1)
  (λit f7 il g D1 lO ZS sc ns elt gens gs scope pos d e IM h=>BO (P:=λgs=>gens.drop d=gs->_) h (λc gs h e=>Mb h λh0 h1 h2 h3 h4 h5=>Xw (P:=λc=>gens.drop d=c::gs->_) h0 (λe=>
    Xk (drop_cons e).1 IM (D1 sc ns c.iter h1).1 h2 h3 (lO sc ns c.ifs h4) (ZS sc ns elt gens _ scope pos (d+1) (drop_cons e).2 IM h5)) e) e)
  ir
theorem ZG(il:IL):∀(sc:Sc)(ns:List bA)(es:List af),qH lo il sc ns es=true->fO (dS C bp k sc ns) es il:=
 IL.rec (motive_1:=λ_=>True) (motive_2:=λil=>∀(sc:Sc)(ns:List bA)(es:List af),qH lo il sc ns es=true->fO (dS C bp k sc ns) es il) (motive_3:=λ_=>True)
  (λ_=>trivial) (λ_=>trivial) (λ_=>trivial) (λ_ _ _ _ _=>trivial) (λ_ _ _=>trivial) (λ_ _=>trivial) (λ_ _=>trivial) (λ_ _ _ _ _=>trivial) (λ_ _ _ _ _ _ _ _=>trivial) (λ_ _ _ _ _ _=>trivial) (λ_ _ _ _=>trivial) (λ_ _ _ _ _ _=>trivial) (λ_ _=>trivial) (λ_ _ _=>trivial) (λ_ _=>trivial) (λ_ _ _=>trivial) (λ_ _=>trivial) trivial (λ_ _ _ _=>trivial) (λ_ _ _ _=>trivial) (λ_ _ _ _=>trivial) (λ_ _ _ _ _=>trivial) (λ_ _ _ _ _ _ _ _ _ _=>trivial) (λ_ _ _ _ _=>trivial) (λ_ _ _ _ _ _ _ _=>trivial) (λ_ _=>trivial)
  (λsc ns es h=>l0 h trivial) (λa il _ j sc ns es h=>BO h λe es h=>an h λh1 h2=>⟨(oU so hc hl a sc ns e h1).1,j sc ns es h2⟩) (λ_ _=>trivial) (λ_ _ _ _ _ _ _=>trivial) il
end
end
section
variable {lo:y5}
structure SetS(C:Cx):Prop extends SortS C where
 add:∀{bp:my}{k N:Nat}{sc:Sc}{ns:List bA}{o e:af}{p pos pos':dK}{q:Path}{ie:IE},(∀env,attributeBase o "add" env (eval o env)=eval o env)->(p.endLine==pos.line)=true->
  w9 C bp k sc ns o q->dS C bp k sc ns e ie->jw C bp N k sc ns (.Expr (.Call (.Attribute o "add" p) [e] [] pos) pos') (.add q ie)
theorem LN(h:z9 lo (.v i) sc ns e=true):j9 e (λx _=>vG ns i x)=true:=h
theorem PI{a:IE}(h:z9 lo (.at i a) sc ns e=true):gT e (λo j _=>j9 o λx _=>vG ns i x&&eB lo a sc ns j&&gq j)=true:=h
theorem LO(h:z9 lo (.fld i j) sc ns e=true):gh e (λo y _=>j9 o λx _=>vG ns i x&&gC[j]?==some y&&decide (j<15))=true:=h
section
variable (so:SetS C)(hc:w_ C bp k)(hl:∀k args fb dC n,lo k args fb dC n=true->Bw k args fb dC n=true)
include so hc hl
theorem VT:∀{p:Path}{e:af},z9 lo p sc ns e=true->w9 C bp k sc ns e p/\k0 e=true
 |.v i,e,h=>kL (LN h) λx _ h=>tN h λh n1 n2=>⟨ZA h n1 n2,rfl⟩
 |.at i a,e,h=>iT (PI h) λo j _ h=>kL h λx _ h=>rW h λh h3 h4=>tN h λh n1 n2=>⟨ZD h n1 n2 (oU so.toSortS hc hl a sc ns j h3).1 h4,rfl⟩
 |.fld i j,e,h=>jU (LO h) λo y _ h=>kL h λx _ h=>rW h λh h3 h4=>tN h λh n1 n2=>⟨VP h n1 n2 (eq_of_beq h3) (of_decide_eq_true h4),rfl⟩
theorem Sv{a:IE}{m:bA}{P:bV->Prop}(h:LP m st (λo e=>z9 lo q sc ns o&&eB lo a sc ns e)=true)
 (f:∀o e p pos pos',(∀env,attributeBase o m env (eval o env)=eval o env)->(p.endLine==pos.line)=true->w9 C bp k sc ns o q->dS C bp k sc ns e a->P (.Expr (.Call (.Attribute o m p) [e] [] pos) pos')):P st:=
 Xx h λo e p pos pos' hp h=>an h λh1 h2=>have X:=VT so hc hl h1;f o e p pos pos' (qJ X.2) hp X.1 (oU so.toSortS hc hl a sc ns e h2).1
theorem ZI(ir:IB):∀(sc:Sc)(ns:List bA)(b:List bV),wN lo ir sc ns b=true->qM C bp N k sc ns b ir:=
 IB.rec (motive_1:=λir=>∀(sc:Sc)(ns:List bA)(st:bV),TQ lo ir sc ns st=true->jw C bp N k sc ns st ir)
  (motive_2:=λir=>∀(sc:Sc)(ns:List bA)(b:List bV),wN lo ir sc ns b=true->qM C bp N k sc ns b ir)
  (λi a sc ns st h=>l_ h λts e _ h=>pY h λt h=>an h λh1 h2=>kL h1 λx p h1=>have E:=oU so.toSortS hc hl a sc ns e h2
    if q:qE e=true then G_ (eq_of_beq h1) E.1 (E.2 q)else JH (eq_of_beq h1) E.1 (dX.mpr q))
  (λis a sc ns st h=>l_ h λts e _ h=>pY h λt h=>sN h λes n p h=>rW h λh1 h2 h3=>JC h1 (oU so.toSortS hc hl a sc ns e h2).1 λxs k p q=>ff (q▸h3:notTuple (.Tuple xs k p)=true))
  (λis il sc ns st h=>l_ h λts e _ h=>pY h λt h=>sN h λes n p h=>sN h λvs _ _ h=>Mb h λh1 h2 h3 h4 h5 h6=>
    NF h1 (of_decide_eq_true h2) (ZG so.toSortS hc hl il sc ns vs h3) (eq_of_beq h4) (of_decide_eq_true h5) ((gO _ _).mp h6|>.imp eq_of_beq id))
  (λp b a sc ns st h=>p.casesOn (motive:=λp=>TQ lo (.fW p b a) sc ns st=true->jw C bp N k sc ns st (.fW p b a))
    (λi h=>l_ h λts e _ h=>pY h λt h=>iT h λo j _ h=>Mc h λ_ h2 h3 h4=>kL (LN h2) λx _ h=>tN h λh n1 n2=>
    RZ h n1 n2 (oU so.toSortS hc hl b sc ns j h3).1 (oU so.toSortS hc hl a sc ns e h4).1)
    (λi j h=>l_ h λts e _ h=>pY h λt h=>iT h λo j _ h=>Mc h λh1 _ _ _=>ff h1)
    (λi j h=>l_ h λts e _ h=>pY h λt h=>iT h λo j _ h=>Mc h λ_ h2 h3 h4=>
    R0 (VT so hc hl h2).1 (oU so.toSortS hc hl b sc ns j h3).1 (oU so.toSortS hc hl a sc ns e h4).1) h)
  (λi j a sc ns st h=>l_ h λts e _ h=>pY h λt h=>jU h λo y _ h=>kL h λx _ h=>Mc h λh1 h3 h4 h5=>tN h1 λh1 n1 n2=>
    G7 h1 n1 n2 (eq_of_beq h3) (of_decide_eq_true h4) (oU so.toSortS hc hl a sc ns e h5).1)
  (λq a sc ns st h=>Sv so hc hl (P:=λst=>jw C bp N k sc ns st _) h λo e p pos pos' hb hp P E=>JI hb hp P E)
  (λq a sc ns st h=>Sv so hc hl (P:=λst=>jw C bp N k sc ns st _) h λo e p pos pos' hb hp P E=>JG hb hp P E)
  (λq a sc ns st h=>Sv so hc hl (P:=λst=>jw C bp N k sc ns st _) h λo e p pos pos' hb hp P E=>so.add hb hp P E)
  (λis single i sc ns st h=>l_ h λts e _ h=>pY h λt h=>yC h λf args kw p3 h=>jU h λo m p2 h=>kL h λx _ h=>TZ h λh0 QX h1 h2 h3 h4 h6=>l0 h0<|l0 QX<|CG h1<|tN h4 λh4 n1 n2=>
    s_pop h2 (eq_of_beq h3) h4 n1 n2 h6)
  (λa sc ns st h=>QG h λe _ h=>an h λh1 h2=>Vd (oU so.toSortS hc hl a sc ns e h1).1 (nf h2))
  (λt x y Tb i_y sc ns st h=>jIf h λe b o _ h=>rW h λh1 h2 h3=>Zp (oU so.toSortS hc hl t sc ns e h1).1 (Tb sc ns b h2) (i_y sc ns o h3))
  (λt x Tb sc ns st h=>S_ h λe b o _ h=>rW h λh0 h1 h2=>l0 h0<|NB (oU so.toSortS hc hl t sc ns e h1).1 (Tb sc ns b h2))
  (λis a x Tb sc ns st h=>Wu h λt i b o _ h=>XH h λh0 h1 h2 h3 h4=>l0 h0<|Vo h1 (oU so.toSortS hc hl a sc ns i h2).1 h3 (Tb sc ns b h4))
  (λi j a x Tb sc ns st h=>Wu h λt c b o _ h=>sN h λes k p h=>yC h λf args kw _ h=>kL h λf _ h=>pY h λe h=>Mb h λh0 QX h1 h2 h3 h4=>an h0 λh01 h02=>l0 h01<|l0 h02<|CG QX<|
    (G9 h1 (eq_of_beq QX▸eq_of_beq h2) (oU so.toSortS hc hl a sc ns e h3).1 (Tb sc ns b h4)))
  (λa sc ns st h=>OL h λe p h=>e.casesOn (motive:=λe=>e.elim (jR a) (λe=>eB lo a sc ns e)=true->jw C bp N k sc ns (.Return e p) (.ret a)) (λh=>(lit_none h).symm▸G8) (λe h=>Vf (oU so.toSortS hc hl a sc ns e h).1) h)
  (λsc ns st h=>HE h λ_ _=>R_)
  (λsc ns st h=>R8)
  (λ_ sc ns st h=>ff h)
  (λ_ sc ns st h=>ff h)
  (λi j aX sc ns st h=>zG h λname args body Xu ret tps dC sc3 QC _ h=>Mb h λh0 h1 h2 h3 h4 h5=>Mc h0 λh01 h02 h03 h04=>l0 h01<|oN h02<|l0 h03<|oN h04<|CG h1<|R9 (eq_of_beq h2) (hl _ _ _ _ _ h3) h4 (eq_of_beq h5))
  (λsc ns b h=>l0 h Vh) (λst r i j sc ns b h=>oe h (λ_ h=>oe h (λ_ h=>BO h λst' ss h=>an h λh1 h2=>Sa (i sc ns st' h1) (j sc ns ss h2))
    λaX q h=>an h λh1 h2=>IS.Oz q (R7 (λi hi=>oP (aH.mp h1 i hi) λx q h=>⟨x,q,h⟩) (j sc ns b h2)))
    λi q h=>IS.Xl q (Zq (j sc ns b h)))
  ir
end
theorem KN{m:Option bA}:∀k args fb dC n,KO m k args fb dC n=true->Bw k args fb dC n=true:=λk args fb dC n h=>by
 induction m using aA with
 |none=>exact ff h
 |some _=>exact h
theorem ZH(so:SetS C)(hc:w_ C bp k)(f:bw)(n:Nat)(iS:Option bA)(fd:iU)(c:CF f n iS fd):Co C bp N k f iS fd:=by
 have h:=c.body;unfold Co;unfold uX at h;revert h;induction f.body using Body.casesOn with
 |stmts ib=>induction fd.body using g7 with
  |stmts ss=>exactλh=>ZI so hc KN ib _ _ ss h
  |expr e=>exactλh=>ff h
 |expr ie=>induction fd.body using g7 with
  |stmts ss=>exactλh=>ff h
  |expr e=>exactλh=>(oU so.toSortS hc KN ie _ _ e h).1
theorem LQ(B:Base C)(so:SetS C)(k:Nat):w_ C (au N k) k:=LU B (λbp k hc f n iS fd c=>ZH so hc f n iS fd c) k
end
section
variable {G0:Gh}
theorem N5{xs:List Int}(R:dI C G O h r (.ref a) (.set xs)):O a=r/\eQ C G a/\G.F a=none/\h.SetOf (ik C) a (λk=>xs.contains k) xs.length/\xs.Nodup/\mc C.w h a:=bS R λb e q=>xf e▸q
theorem Im{xs:List Int}{j:Int}(h:xs.Nodup):(jv xs j).Nodup:=by
 delta jv;split
 . exact h
 . rename_i q
   refine mW.mpr ⟨h,by simp,λa ha b hb=>?_⟩;rw[aI]at hb;subst hb;intro e;subst e;exact q (by simpa using ha)
theorem Vu{o:af}{pos:dK}(hb:∀env,attributeBase o "add" env (eval o env)=eval o env)(hl:(p.endLine==pos.line)=true)
 (hp:w9 C bp k sc ns o q)(he:dS C bp k sc ns e ie):jw C bp N k sc ns (.Expr (.Call (.Attribute o "add" p) [e] [] pos) pos') (.add q ie):=λG O env A s fr wl fl cJ bQ q0 H=>
 ob q0 λy q1 q=>f9 q λx w2 q2 q=>ob q λj h1 q=>ob q λxs h2 q=>dU q λhz q=>(OB.AR (P:=λo'=>kD bp _ fr wl=some ((o',y.1.2),y.2)->_) h2 λq1=>xp q
  (vJ hb PySem.F.plainAttrs_set Ct PySem.F.type_set_add hl hp he q1 q2 H λv aM G1 a κ t i x' hv x1 W1 F1 P=>by
    subst hv;refine iQ (N5 P.rep) λg1 g2 g3 hS nd sm=>?_;refine⟨hS.typeIs,(by(refine u_ hS ?_;clear hS;intro o es q1;refine cO q1 ?_;clear q1;intro ep t ho hex _);exact⟨o,ho,hex.2.1⟩),λu b0 G2 x2 W2 R2=>iA R2 h1 λtk=>?_⟩
    (refine xE (gn hz.2.1) λn q2=>?_;subst q2)
    have hS2:=oJ (x2.at_ g2) hS;refine gK Ct hS2.typeIs PySem.F.entry_set_add ?_ (PySem.F.args_set_add_2 _ _);delta qT.«set.add» Qc;simp only[og,bind_assoc];delta Qe;refine ai (ar ?_)
    try dsimp only
    refine ai (ar ?_)
    try dsimp only
    refine ai (yY hS2 (sm.at_ (x2.at_ g2)) hz.1 (dn.mp hz.2.2) λb h' O8 Pg sm'=>?_)
    show aK _ _ (ret Iu) _ _ _
    have ho:=(mH hS).choose_spec;exact ar ⟨_,rfl,(rz (tk:=b0.toks+1) (h':=h') (wl:=w2) (o':=.set (jv xs n)) x1 F1 P x2 W2 trivial (eH O8) (mH Pg) ⟨a,rfl,P.hO,x2.free g2 ho,x2.Aq g3 ho,Pg,Im nd,sm'⟩).next⟩)) q1
end
theorem yV:((ae 256).all λm=>c_ (gj m) 0==0&&(ae 8).all λi=>match(gj m)[i]?with|some j=>c_ (gj m) (j+1)==i+1|none=>true)=true:=by decide+kernel
theorem Eu(hm:m<256):c_ (gj m) 0=0:=by
 have h:=aH.mp yV m (aC.mpr hm);rw[bY,beq_iff_eq]at h;exact h.1
theorem Ew(hm:m<256)(hi:i<8)(hj:(gj m)[i]?=some j):c_ (gj m) (j+1)=i+1:=by
 have h:=aH.mp yV m (aC.mpr hm);rw[bY]at h
 have h2:=aH.mp h.2 i (aC.mpr hi);rw[hj]at h2;exact beq_iff_eq.mp h2
theorem get_erase{α:Type}:∀{l:List α}{i:Nat}(h:i<l.length),(l[i]::l.eraseIdx i).Perm l
 |x::l,0,_=>.refl _
 |x::l,i+1,h=>by
  have ih:=get_erase (l:=l) (i:=i) (EP h);exact(List.Perm.swap _ _ _).trans (ih.cons x)
theorem Fi{α:Type}{next:Nat->Nat}:∀(n k:Nat)(left:List α)(out:Array α),left.length=n->(x7 next n k left out).toList.Perm (out.toList++left)
 |0,k,left,out,h=>by
  rw[n_]at h;subst h;unfold x7;rw[cC]
 |n+1,k,left,out,h=>by
  unfold x7
  have oo:next k%left.length<left.length:=pg _ (h▸uy n)
  refine eW (aV oo) ?_;dsimp only;refine(Fi n (k+1) _ _ (by refine eW (List.length_eraseIdx_of_lt oo)<|eW h ?_;rfl)).trans ?_;refine eW mE<|eW (gZ ..) ?_;exact List.Perm.append_left _<|get_erase oo
theorem Hg{α:Type}(next:Nat->Nat)(xs:Array α):(pickOrder next xs).toList.Perm xs.toList:=by
 have:=Fi (next:=next) xs.size 0 xs.toList #[] rfl
 rwa[lp]at this
theorem o5{x:Int}:∀{l:List Int},(insertSorted x l).Perm (x::l)
 |[]=>.refl _
 |y::l=>by
  unfold insertSorted;split
  . exact .refl _
  . exact(o5.cons y).trans (.swap _ _ _)
theorem yl:∀{l:List Int},(fV l).Perm l
 |[]=>.refl _
 |x::l=>by
  unfold fV;exact o5.trans (yl.cons x)
theorem qr{x:Int}:∀{l:List Int},l.Pairwise (·<=·)->(insertSorted x l).Pairwise (·<=·)
 |[],_=>by delta insertSorted;simp
 |y::l,h=>by
  rw[gF]at h;unfold insertSorted;split
  . rename_i q
    refine iW gF ?_;refine⟨λz hz=>?_,gF.mpr h⟩;rcases a6.mp hz with rfl|hz
    . exact q
    . exact Ya q (h.1 z hz)
  . rename_i q
    refine iW gF ?_;refine⟨λz hz=>?_,qr h.2⟩;rcases a6.mp (o5.mem_iff.mp hz)with rfl|hz
    . lia
    . exact h.1 z hz
theorem tH:∀{l:List Int},(fV l).Pairwise (·<=·)
 |[]=>pj
 |x::l=>by unfold fV;exact qr tH
theorem vk:∀{l r:List Int},l.Perm r->l.Pairwise (·<=·)->r.Pairwise (·<=·)->l=r
 |[],r,p,_,_=>(List.nil_perm.mp p).symm
 |x::l,[],p,_,_=>by have:=p.length_eq;cases this
 |x::l,y::r,p,h1,h2=>by
  rw[gF]at h1 h2
  have e:x=y:=by
   have a1:x∈y::r:=p.mem_iff.mp (.head _)
   have a2:y∈x::l:=p.mem_iff.mpr (.head _);rcases a6.mp a1 with q|q
   . exact q
   . rcases a6.mp a2 with q'|q'
     . exact q'.symm
     . exact Int.le_antisymm (h1.1 _ q') (h2.1 _ q)
  subst e;exact eW (vk (List.Perm.cons_inv p) h1.2 h2.2) rfl
theorem Nr{ns xs:List Int}(p:ns.Perm xs)(h:ns.Pairwise (·<=·)):ns=fV xs:=vk (p.trans yl.symm) h tH
noncomputable def cZ(w:fP)(a:aO)(ep:Nat)(es:Array (Int×aB)):Array (Int×aB):=if w.params.followText "set-order" then pickOrder (w.params.setOrder a ep) es else es
theorem kZ{w:fP}{es:Array (Int×aB)}:(cZ w a ep es).toList.Perm es.toList:=by
 unfold cZ;split
 . exact Hg _ _
 . exact .refl _
def EC(w:fP)(m i slot:Nat):Prop:=w.params.followText "set-order"=true\/c_ (gj m) slot=i
theorem Jx{o:jX}{es:Array (Int×aB)}{slot:Nat}{Q:Option (aB×Nat)->aN->Prop}(ho:s.heap.get? a=some o)(hd:o.data=.set es ep (tabOf m (eX C.w)))(hf:(tabOf m (eX C.w)).fits es.size=true)(hm:m<256)(h4:es.size<=4)
 (hs:EC C.w m i slot)(hi:i<=es.size)(h0:es.size=i->Q none s)(h1:∀e next,(cZ C.w a ep es)[i]?=some e->EC C.w m (i+1) next->Q (some (e.2,next)) s):
 aK C.M A (setNext a slot i ep) Q E s:=by
 have Z8:es.size=(gj m).size:=by
  simp only[qa,bY,beq_iff_eq]at hf;exact hf.1.symm
 have Z4:(cZ C.w a ep es).size=es.size:=by exact eL bC<|eW kZ.length_eq<|eW bC rfl
 unfold setNext;refine ai (oy ho hd hf ?_);dsimp only;unfold setsByText;refine ai (ai (eG (ar ?_)));induction hT:C.w.params.followText "set-order" using ax with
 |true=>
  have Yw:(Uh C.M.prog C.M.w.params).params.followText "set-order"=true:=hT;refine eW (if_pos Yw) ?_
  have hr:cZ C.w a ep es=pickOrder (C.w.params.setOrder a ep) es:=by unfold cZ;exact eW (if_pos hT) rfl
  simp only[bne_self_eq_false,ey,if_false];unfold setWalk;refine ai (ai (oy ho hd hf ?_));dsimp only;unfold setsByText;refine ai (ai (eG (ar ?_)));refine eW (if_pos Yw) ?_;refine ai (eG (ar ?_))
  show aK _ _ (pure (((pickOrder (C.w.params.setOrder a ep) es)[i]?).map λe=>(e.2,slot))) _ _ _;refine eL hr ?_;refine ar ?_;induction q:(cZ C.w a ep es)[i]?using aA with
  |none=>exact h0 (by have:=yd.mp q;lia)
  |some e=>exact h1 e slot q (.inl hT)
 |false=>
  have Yw:¬(Uh C.M.prog C.M.w.params).params.followText "set-order"=true:=by
   show¬C.w.params.followText "set-order"=true;exact eW hT<|ay
  refine eW (if_neg Yw) ?_
  have aac:eX C.w=true:=by unfold eX;exact eW hT rfl
  refine eW aac ?_
  have hr:cZ C.w a ep es=es:=by unfold cZ;exact eW hT rfl
  have hb:c_ (gj m) slot=i:=hs.resolve_left (by exact eW hT<|ay);split
  . rename_i q;exact absurd (show false=true from q) ay
  . refine ai ?_
    show aK _ _ (pure PUnit.unit) _ _ _;refine ar ?_;refine eW (show(tabOf m true).place=gj m from rfl)<|eW hb ?_;rw[hr]at h1;induction q:es[i]?using aA with
    |none=>exact ar (h0 (by have:=yd.mp q;lia))
    |some e=>
     have oo:i<es.size:=(lX.mp q).1
     have hp:(gj m)[i]?=some ((gj m)[i]'(by lia)):=mA _;exact eW hp<|ar (h1 e _ q (.inr (Ew hm (by lia) hp)))
theorem iI:Iw "set_iterator" "__next__" "set_iterator.__next__":=
 .of (owner:="set_iterator") (n:="__next__") (by refine eW (YH ..)<|eW MS ?_;kernel_rfl) (by decide+kernel) (by decide+kernel) (by decide+kernel)
  (by first|exact .inl (by decide+kernel)|exact .inr (by decide+kernel)) (by refine eW (EJ ..) ?_;kernel_rfl)
theorem sU:entryFor table "set_iterator.__next__"=some qT.«set_iterator.__next__»:=entryFor_of_fast (by kernel_rfl)
theorem uk(a:aB):argsOk "set_iterator.__next__" ⟨[a],[]⟩:=by unfold argsOk;kernel_rfl
theorem wC:entryFor table "set.__iter__"=some qT.«frozenset.__iter__»:=
 aa' (id':="frozenset.__iter__") (by kernel_rfl) rfl (by decide+kernel) (by kernel_rfl)
noncomputable def E8(a:aO)(first i n ep:Int)(tk:Tok):jX:={cls:=.type "set_iterator",data:=.fields #[.int first 0,.int i 0,.ref a,.int n 0,.int ep 0]}
theorem DJ{o:jX}{es:Array (Int×aB)}(ho:s.heap.get? a=some o)(hc:o.cls=.type "set")(hd:o.data=.set es ep (tabOf m (eX C.w)))(hf:(tabOf m (eX C.w)).fits es.size=true)
 (h:Q (.ref s.heap.objs.size) {s with heap:=s.heap.push (E8 a 0 0 es.size ep 0)}):aK C.M A (pyIter (.ref a)) Q E s:=by
 refine UN ⟨o,ho,hc⟩ As (gK As ⟨o,ho,hc⟩ wC ?_ (PySem.F.args_set_iter_1 _));unfold qT.«frozenset.__iter__»
 show aK _ _ (qR a>>=_) _ _ s;unfold qR;refine ai (ai (Rf ho hd hf (ar ?_)));unfold setDrawn;refine ai (ai (oy ho hd hf ?_));dsimp only;unfold setsByText;refine ai (ai (eG (ar (ar ?_))));rw[if_neg (λq=>ay (by
  rw[bY]at q;exact(show false=true from q.2)))]
 refine ai (ar (ai (wpAny_setEpoch_of ho hd hf ?_)));refine ai (kF (ar ?_));exact⟨_,rfl,"set_iterator",_,⟨_,bI _ rfl,rfl⟩,iI.lookup,h⟩
section
variable {it:aO}
structure kT(w:fP)(a:aO)(es:Array (Int×aB))(ep m:Nat)(h:eu):Prop where
 obj:∃o,h.get? a=some o/\o.cls=.type "set"/\o.data=.set es ep (tabOf m (eX w))
 fits:(tabOf m (eX w)).fits es.size=true
 lt:m<256
 le:es.size<=4
theorem kT.at_{w:fP}{es:Array (Int×aB)}(x:kT w a es ep m h)(k:∀o,h.get? a=some o->h'.get? a=some o):kT w a es ep m h':=
 ⟨bS (x.obj) λo e r=>⟨o,k _ e,r⟩,x.fits,x.lt,x.le⟩
def Mn(w:fP)(a it:aO)(es:Array (Int×aB))(ep m i:Nat)(h:eu):Prop:=
 ∃slot:Nat,EC w m i slot/\∃o,h.get? it=some o/\o.cls=.type "set_iterator"/\o.data=.fields #[.int slot 0,.int i 0,.ref a,.int es.size 0,.int ep 0]
theorem vH{es:Array (Int×aB)}{Q:Option aB->aN->Prop}(hh:A.handled=none)(L:kT C.w a es ep m s.heap)(I:Mn C.w a it es ep m i s.heap)(hi:i<=es.size)
 (h0:es.size=i->∀h',XU it s.heap h'->Q none {s with heap:=h'})
 (h1:∀e h',(cZ C.w a ep es)[i]?=some e->Mn C.w a it es ep m (i+1) h'->cS it s.heap h'->Q (some e.2) {s with heap:=h'}):aK C.M A (pyNext (.ref it)) Q E s:=by
 (refine I_ I ?_;clear I;intro slot hs o ho q1;refine xA q1 ?_;clear q1;intro hc hd)
 (refine dT (L.obj) λos hos FO hds=>?_)
 have hT:s.TypeIs (.ref it) "set_iterator":=⟨o,ho,hc⟩;unfold pyNext;refine ai (wpAny_attempt (p_ (name:=aa "__next__") hT iI (gK iI hT sU ?_ (uk _))));unfold qT.«set_iterator.__next__»;refine ai (ar ?_);refine ai (aa8 ho hd ?_);dsimp only;refine ai (Rf hos hds L.fits ?_);rw[if_neg (by simp)];refine ai ?_;simp only[cI];refine Jx hos hds L.fits L.lt L.le hs hi (λq=>?_) (λe next q q2=>?_)
 . dsimp only
   refine ai (EI ho hd (by simp) ?_)
   show aK _ _ (newExc (.type "StopIteration") []>>=_) _ _ _;refine ai ?_;simp only[newExc,newTuple];refine ai (kF ?_ (by size_fits));refine ai (m:=firstArgMember _ _) (wpAny_of_eq (a:=Iu) (by first|rfl|(simp only[firstArgMember];rfl)) ?_);refine kF ?_ (by size_fits);simp only[raiseNew];refine ai (wpAny_handled ?_);refine eW (show A.in1.handled=none from hh) ?_;refine ai (ar (wpAny_throw ?_));refine ai (XQ (T:="StopIteration") (b:=true) ⟨_,bI _ rfl,rfl⟩ isSubtype_stop ?_);exact ar (h0 q _ (((cA ..).extBut.push _).push _))
 . dsimp only
   refine ai (EI ho hd (by simp) ?_);refine ai (EI (en _ ho (qc (fj hd _))) (fj hd _) (by simp) ?_);refine ar ⟨_,rfl,ar (h1 e _ q ⟨next,q2,_,en _ (en _ ho (qc (fj hd _))) (qc (fj (fj hd _) _)),?_,?_⟩ ?_)⟩
   . exact eW (MV ..)<|eW (MV ..)<|hc
   . refine eW (fj (fj hd _) ..) ?_
     simp[rawInt]
   . exact(cA ..).trans (cA ..)
end
theorem nZ:Iw "set_iterator" "__iter__" "set_iterator.__iter__":=
 .of (owner:="set_iterator") (n:="__iter__") (by refine eW (YH ..)<|eW MS ?_;kernel_rfl) (by decide+kernel) (by decide+kernel) (by decide+kernel)
  (by first|exact .inl (by decide+kernel)|exact .inr (by decide+kernel)) (by refine eW (EJ ..) ?_;kernel_rfl)
theorem sV:entryFor table "set_iterator.__iter__"=some qT.«dict_keyiterator.__iter__»:=
 aa' (id':="dict_keyiterator.__iter__") (by kernel_rfl) rfl (by decide+kernel) (by kernel_rfl)
theorem um(a:aB):argsOk "set_iterator.__iter__" ⟨[a],[]⟩:=by unfold argsOk;kernel_rfl
section
variable {it:aO}
theorem Jy{Q:Bool->aN->Prop}(hT:s.TypeIs (.ref a) "set")(h:Q false s):aK C.M A (r8 (.ref a)) Q E s:=by
 unfold r8;refine ai (wpAny_specialOf hT PySem.F.slot_set_len.lookup ?_);generalize hid:("set.__len__":String)=id0
 wp_delta
 rw[show splitId id0=some ("set","__len__")from by subst hid;decide+kernel];subst hid;refine ai (XQ (T:="set") (b:=true) hT (by refine eW (EJ ..) ?_;kernel_rfl) ?_);refine YG (λW0=>absurd W0 (by decide)) (λ_=>?_);refine YG (λ_=>?_) (λW0=>absurd (by decide+kernel) W0);refine ai (wpAny_typeOf hT ?_);exact ar h
theorem AB{es:Array (Int×aB)}(hh:A.handled=none)(BN:a≠it):
 Walks pw C.w A it [it,a] [it] es.size (λi v=>∃e,(cZ C.w a ep es)[i]?=some e/\e.2=v) (λi h=>Mn C.w a it es ep m i h/\i<=es.size/\kT C.w a es ep m h)where
 sub:=λb hb=>by simp at hb;simp[hb]
 frame:=λ_ _ _ st hk=>⟨let⟨sl,x,o,e,r⟩:=st.1;⟨sl,x,o,hk it (.head _) o e,r⟩,st.2.1,st.2.2.at_ λo e=>hk a (.tail _ (.head _)) o e⟩
 item:=λi s Q E hi st hQ=>by
  refine vH hh st.2.2 st.1 st.2.1 (λq=>absurd q (e_ hi)) λe h' he aaf yD=>?_;exact hQ e.2 h' s.toks ⟨e,he,rfl⟩ ⟨aaf,hi,st.2.2.at_ λo q=>yD.extBut a o BN q⟩ λb o hb q=>yD.extBut b o (λh=>hb (by simp[h])) q
 done:=λs Q E st hQ=>by
  have Z4:(cZ C.w a ep es).size=es.size:=by exact eL bC<|eW kZ.length_eq<|eW bC rfl
  refine vH hh st.2.2 st.1 st.2.1 (λq h' he'=>hQ h' s.toks λb o hb e=>he' b o (λh=>hb (by simp[h])) e) λe h' he _ _=>?_
  have:=(lX.mp he).1;lia
 self:=λi s Q E st hQ=>by
  (refine I_ (st.1) λsl x o e q2=>?_;refine xA q2 ?_;clear q2;intro hc r)
  have hT:s.TypeIs (.ref it) "set_iterator":=⟨o,e,hc⟩;refine UN hT nZ (gK nZ hT sV ?_ (um _))
  show aK _ _ (ret (.ref it)) _ _ s;exact ar ⟨_,rfl,"set_iterator",_,hT,iI.lookup,hQ⟩
theorem Nz{es:Array (Int×aB)}:KdlSrc pw C.w "set" a a es.size (λi v=>∃e,(cZ C.w a ep es)[i]?=some e/\e.2=v) (kT C.w a es ep m)where
 type:=λs L=>dT (L.obj) λo e hc _=>⟨o,e,hc⟩
 there:=λh L=>bS (L.obj) λo e _=>⟨bb e,bb e⟩
 keep:=λ_ _ L hk=>L.at_ λo e=>hk a (.inl rfl) o e
 notList:=by decide
 notTuple:=by decide
 hint:=λ_ _ _ _ L hq=>Jy (C:=C) (dT (L.obj) λo e hc _=>⟨o,e,hc⟩) hq
 iter:=λA s hh L=>by
  (refine dT (L.obj) λo e hc hd=>?_)
  exact⟨E8 a 0 0 es.size ep 0,_,λ_ _ hq=>DJ (C:=C) e hc hd L.fits hq,AB hh (bx (bb e)),
   ⟨0,.inr (Eu L.lt),_,bI _ rfl,rfl,rfl⟩,aU _,L.at_ λo e=>a_ _ e⟩
theorem z7{es:Array (Int×aB)}{R:Result->aN->Prop}(hh:A.handled=none)(L:kT C.w a es ep m s.heap)
 (hR:∀h' tk lQ c',(∀b o,b≠s.heap.objs.size->s.heap.get? b=some o->h'.get? b=some o)->h'.get? s.heap.objs.size=some {cls:=.type "list",dict:=none,data:=.seq lQ c',slots:=#[]}->
   ItemsOf (λi v=>∃e,(cZ C.w a ep es)[i]?=some e/\e.2=v) lQ es.size->R (.ok (.ret (.ref s.heap.objs.size))) {s with heap:=h',toks:=tk}):
 codeAny C.M A (.builtin "proto.collect" ⟨[.ref a],[]⟩) R s:=by
 refine q_ F.entry_proto_collect ?_;refine eW (pU F.plain_proto_collect _) ?_
 show aK _ A.in1 (newList []>>=λl=>again (.builtin "list.__iadd__" ⟨[l,.ref a],[]⟩)) _ _ s;refine ai (jC ?_);refine ar ⟨plainId_quiet Rq _,q_ F.entry_list_iadd ?_⟩;refine eW (pU Rq _) ?_
 have oo:a<s.heap.objs.size:=bS (L.obj) λo e _=>bb e
 have hS:(s.heap.push {cls:=.type "list",data:=.seq ([]:List aB).toArray}).get? s.heap.objs.size=some {cls:=.type "list",data:=.seq #[] 0}:=bI _ rfl;exact kdl_extend (s:={s with heap:=s.heap.push {cls:=.type "list",data:=.seq ([]:List aB).toArray}}) (Nz (C:=C)) (by exact hh) (L.at_ λo e=>a_ _ e) s.heap.objs.size (e_ oo) (e_ oo) _ 0 hS
  (λh' tk lQ c' hk Pg Pf=>hR h' tk lQ c' (λb o hb e=>hk b o hb (a_ _ e)) Pg Pf) (by have:=L.le;refine eW dp ?_;lia)
theorem B9{es:Array (Int×aB)}{Q:List aB->aN->Prop}(hh:A.handled=none)(L:kT C.w a es ep m s.heap)
 (hQ:∀h' tk vs,(∀b o,s.heap.get? b=some o->h'.get? b=some o)->vs=((cZ C.w a ep es).map (·.2)).toList->Q vs {s with heap:=h',toks:=tk}):aK C.M A (collect (.ref a)) Q E s:=by
 unfold collect;refine ai (wpAny_runValue (z7 hh L λh' tk lQ c' hk Pg Pf=>?_))
 show aK _ A (load s.heap.objs.size>>=_) _ _ _;refine ai (Uc Pg ?_);refine ar (hQ h' tk lQ.toList (λb o e=>hk b o (bx (bb e)) e) ?_)
 have Z4:(cZ C.w a ep es).size=es.size:=by exact eL bC<|eW kZ.length_eq<|eW bC rfl
 congr 1
 apply Array.ext
 . exact eW Pf.1<|eW Array.size_map<|eW Z4 rfl
 . intro i h1 h2
   (refine bS (Pf.2 i lQ[i] (mA h1)) λe he hv=>?_)
   refine eL hv<|eW (Array.getElem_map ..) ?_
   (refine xE (lX.mp he) λ_ q=>?_)
   exact eW q rfl
theorem ints_map{α:Type}{f:α->aB}{g:α->Int}:∀{l:List α},(∀e∈l,∃t,f e=.int (g e) t)->IntsAre (l.map f) (l.map g)
 |[],_=>.nil
 |e::l,h=>by
  (refine xE (h e (.head _)) λt q=>?_)
  exact eW bT<|eW bT<|eW q<|.cons _ _ (ints_map λx hx=>h x (.tail _ hx))
theorem Hb{ns:List Int}(h:IntsAre vs ns):bB C G vs (ns.map .int):=IntsAre.rec (motive:=λvs ns _=>bB C G vs (ns.map .int)) .nil (λn t _ _ _ ih=>.cons (.int n t) ih) h
theorem vE:∀{xs ys:List Int},xs.Nodup->(∀x∈xs,x∈ys)->xs.length=ys.length->ys.Perm xs
 |[],ys,_,_,h=>by induction ys using bP with|nil=>exact .refl _|cons _ _=>cases h
 |x::xs,ys,hn,hs,hl=>by
  rw[cp]at hn
  have h1:=List.perm_cons_erase (hs x (.head _));refine h1.trans ((vE hn.2 (λy hy=>?_) ?_).cons x)
  . have:y≠x:=λe=>hn.1 (e▸hy)
    exact(List.mem_erase_of_ne this).mpr (hs y (.tail _ hy))
  . exact eW (List.length_erase_of_mem (hs x (.head _)))<|eL hl rfl
theorem Nq:Mi C:=by
 intro A G O s wl a xs v h₀ hh W R hx
 have hR:∃ρ:Nat->Role,dM C G O s.heap (λk=>some (ρ k)) v (.ob (.set xs)):=ob hx λt h1 h2=>(Gl (P:=λa=>cE C G O h₀ s.heap v a->_) h1 λR=>ob h2 λo h3 h4=>(OT.zw (P:=λt=>cE C G O h₀ s.heap v (.bor t)->_) h3 (OB.AR (P:=λo=>cE C G O h₀ s.heap v (.bor (.ob o))->_) h4 λR=>R)) R) R
 (refine xE hR ?_;clear hR;intro ρ hT)
 (refine m9 hT ?_;clear hT;intro a q4;subst q4;intro hO lC hF q3;refine mF q3 ?_;clear q3;intro q6;obtain⟨o,es,ep,T,ho,hex,hd,Pd,kR,hb,hf,hz⟩:=q6;intro UC o' q5;refine kP q5 ?_;clear q5;intro YB YC m pZ ui hm IK)
 rw[ho]at pZ;cases pZ;rw[hd]at ui;cases ui
 have L:kT C.w a es ep m s.heap:=⟨⟨o,ho,hex.1,hd⟩,hf,hm,IK⟩
 have WS:∃g:Int×aB->Int,∀e∈es.toList,∃t,e.2=.int (g e) t:=⟨λe=>numOf e.2,λe he=>by
  (refine xA (Pd e he) λq7=>?_;obtain⟨k,hk,_⟩:=q7;intro _)
  (refine xE (IT hk) λt q=>?_)
  exact⟨t,by dsimp only;exact eW q rfl⟩⟩
 (refine xE WS ?_;clear WS;intro g hg)
 have wk:(es.toList.map g).Perm xs:=by
  refine vE UC (λx hx=>?_) ?_
  . (refine bS ((kR x).mp (by simpa using hx)) λe he hp=>?_)
    (refine xE (hg e he) λt q=>?_)
    (refine xE (IT hp) λt' q'=>?_)
    rw[q]at q';cases q';exact bO.mpr ⟨e,he,rfl⟩
  . exact eW (aj ..)<|eW bC<|hz.symm
 have hI:IntsAre ((cZ C.w a ep es).toList.map (·.2)) ((cZ C.w a ep es).toList.map g):=ints_map λe he=>hg e ((kZ (w:=C.w) (a:=a) (ep:=ep)).mem_iff.mp he)
 have O_:((cZ C.w a ep es).toList.map g).Perm xs:=(kZ.map g).trans wk;refine Calls.call_function_entry kind_sorted plain_sorted entry_sorted (args_sorted1 _) ?_;unfold qT.«sorted»;refine ai (m:=checkCount "sorted" 1 1 _) (ar ?_);refine ai (B9 (C:=C) hh L λh' tk vs k1 Yq=>?_);rw[Array.toList_map]at Yq;subst Yq
 have hlen:((cZ C.w a ep es).toList.map (·.2)).length<=4:=by exact eW (aj ..)<|eW ((kZ (w:=C.w) (a:=a) (ep:=ep) (es:=es)).length_eq)<|eW bC<|IK
 refine ai (jC ?_ (by refine eW dp ?_;lia))
 have WH:(h'.push (seqObj "list" ((cZ C.w a ep es).toList.map (·.2)).toArray 0)).get? h'.objs.size=some (seqObj "list" ((cZ C.w a ep es).toList.map (·.2)).toArray 0):=bI _ rfl;refine ai (bM (gK slot_list_sort ⟨_,WH,rfl⟩ entry_list_sort (list_sort_tree WH hI ?_ λout ns' a1 a2 a3=>⟨_,rfl,?_⟩) (args_list_sort _)))
 . lia
 . have UB:=Nr (a2.trans O_) a3
   subst UB;refine ar ⟨_,rfl,PE.after (Step.grow h' tk k1) (s':={s with heap:=h',toks:=tk}) ?_⟩
   (refine xE (sortedHeap_at (out:=out) WH) λe1 h1=>?_)
   refine J8 (s:={s with heap:=h',toks:=tk}) (W.grow k1) (λb o' q=>?_) (o:={cls:=.type "list",data:=.seq out.toList.toArray e1}) (by refine eW Array.toArray_toList ?_;exact h1) λG' x1 x2=>.list x2 (Hb a1)
   have hb:b<h'.objs.size:=bb q;rw[sortedHeap_old (bx hb) (by rw[size_push'];exact dm hb)];exact a_ _ q
theorem Ny:SetS C:={ok:=Nq,add:=Vu}
end
abbrev ud:=aO->Option jX
noncomputable def kK(es:List b7)(x:bA):Option aB:=(es.find? λe=>e.key.isStr x).map (·.val)
noncomputable def vN(v:aB):Bool:=v.casesOn true false false (λ_=>false) (λ_ _=>false) (λ_ _=>false) (λ_ _=>false) (λ_ _=>false) (λ_=>false) (λ_=>false) λ_=>false
noncomputable def vB(v:aB):Option Bool:=v.casesOn none none none some (λ_ _=>none) (λ_ _=>none) (λ_ _=>none) (λ_ _=>none) (λ_=>none) (λ_=>none) λ_=>none
noncomputable def vI(v:aB):Option Int:=v.casesOn none none none (λ_=>none) (λi _=>some i) (λ_ _=>none) (λ_ _=>none) (λ_ _=>none) (λ_=>none) (λ_=>none) λ_=>none
noncomputable def vS(v:aB):Option bA:=v.casesOn none none none (λ_=>none) (λ_ _=>none) (λ_ _=>none) (λi _=>some i) (λ_ _=>none) (λ_=>none) (λ_=>none) λ_=>none
noncomputable def Bx(v:aB)(n:String):Bool:=v.casesOn false false false (λ_=>false) (λ_ _=>false) (λ_ _=>false) (λ_ _=>false) (λ_ _=>false) (λm=>m==n) (λ_=>false) λ_=>false
noncomputable def vU(v:aB)(n:String):Bool:=v.casesOn false false false (λ_=>false) (λ_ _=>false) (λ_ _=>false) (λ_ _=>false) (λ_ _=>false) (λ_=>false) (λm=>m==n) λ_=>false
noncomputable def vR(v:aB):Option aO:=v.casesOn none none none (λ_=>none) (λ_ _=>none) (λ_ _=>none) (λ_ _=>none) (λ_ _=>none) (λ_=>none) (λ_=>none) some
def isRef(v:aB)(a:aO):Bool:=(vR v).any λb=>c5 b a
noncomputable def oP_(d:Data):Bool:=d.casesOn true (λ_=>false) (λ_ _=>false) (λ_ _=>false) (λ_ _ _=>false) (λ_ _=>false) (λ_=>false) (λ_=>false) (λ_=>false) (λ_=>false) false
noncomputable def Sx(d:Data):Option (Array aB):=d.casesOn none (λ_=>none) (λvs _=>some vs) (λ_ _=>none) (λ_ _ _=>none) (λ_ _=>none) (λ_=>none) (λ_=>none) (λ_=>none) (λ_=>none) none
noncomputable def Oe(d:Data):Option (Array b7):=d.casesOn none (λ_=>none) (λ_ _=>none) (λes _=>some es) (λ_ _ _=>none) (λ_ _=>none) (λ_=>none) (λ_=>none) (λ_=>none) (λ_=>none) none
noncomputable def VX(d:Data):Option iU:=d.casesOn none (λ_=>none) (λ_ _=>none) (λ_ _=>none) (λ_ _ _=>none) (λ_ _=>none) (λ_=>none) some (λ_=>none) (λ_=>none) none
noncomputable def Oc(d:Data):Option (Array aB):=d.casesOn none (λ_=>none) (λ_ _=>none) (λ_ _=>none) (λ_ _ _=>none) (λ_ _=>none) (λ_=>none) (λ_=>none) (λ_=>none) some none
def FQ(g:ud)(a:aO):List b7:=((g a).bind λo=>Oe o.data).elim [] (·.toList)
def FR(g:ud)(a:aO):Bool:=(g a).any λo=>(Oe o.data).any λes=>es.toList.all λe=>(vS e.key).isSome
mutual
def AE(g:ud):FV->aB->Bool
 |.none,v=>vN v
 |.bool b,v=>(vB v).any λc=>b==c
 |.int i,v=>(vI v).any λj=>i==j
 |.str x,v=>(vS v).any λy=>x==y
 |.obj a,v=>isRef v a&&(g a).isSome
 |.tup xs,v=>(vR v).any λa=>(g a).any λo=>Bx o.cls "tuple"&&o.dict.isNone&&o.slots.toList.isEmpty&&(Sx o.data).any λvs=>j4 g xs vs.toList
 |.list _,_=>false
 |.dict _,_=>false
 |.set _,_=>false
 |.inst _ _,_=>false
 |.mB _ _,_=>false
 |.range _ _ _,_=>false
 |.well,_=>false
def j4(g:ud):List FV->List aB->Bool
 |[],vs=>vs.isEmpty
 |x::xs,vs=>vs.casesOn false λv vs=>AE g x v&&j4 g xs vs
end
noncomputable def TBL:List (Nat×bA×Nat×Nat×bA):=[(609,aa "registers_ahead",608,606,aa "live_registers.<locals>.registers_ahead"),(649,aa "slots_ahead",648,646,aa "live_slots.<locals>.slots_ahead"),
 (699,aa "<lambda>",698,694,aa "_law_touch.<locals>.<lambda>"),(706,aa "<lambda>",705,701,aa "_law_plain.<locals>.<lambda>"),
 (713,aa "<lambda>",712,708,aa "_law_loose.<locals>.<lambda>"),(720,aa "<lambda>",719,715,aa "_law_part.<locals>.<lambda>")]
noncomputable def kJ:List (aO×aO):=[(608,606),(648,646),(698,694),(705,701),(712,708),(719,715)]
noncomputable def SJ(a:Nat):Option (bA×Nat×Nat×bA):=(TBL.find? λt=>c5 t.1 a).map (·.2)
noncomputable def Yj(P:aO):bA:=match TBL.find? λt=>c5 t.2.2.2.1 P with
 |some t=>t.2.2.2.2
 |none=>aa ""
noncomputable def gB(g:ud):ud:=λa=>if kJ.any λq=>c5 q.2 a then none else g a
noncomputable def KA:List Nat:=[97,96,140,139,490,489,87,130,447,454,461,468,475,482]
noncomputable def Uz(g:ud):Frag:=KA.filterMap λa=>(g a).map λo=>(a,o)
def LL(g:ud)(cv:aB)(q:bA):Bool:=(vR cv).any λc=>(g c).any λo=>(Oc o.data).any λvs=>(vs.toList[1]?:Option aB).any λv=>(vS v).any λx=>x==q
def F9(g:ud)(v:aB)(ds:List FV):Bool:=ds.isEmpty&&vN v||(vR v).any λT=>(g T).any λo=>(Sx o.data).any λvs=>j4 g ds vs.toList
noncomputable def Dw(mk:Option (bA×Nat×Nat×bA)):Option bA:=mk.map (·.1)
def Xr(g:ud)(f:bw)(mk:Option (bA×Nat×Nat×bA))(fd:iU):Bool:=
 jQ fd.params f&&rQ fd.scope f 0&&uX (KO (Dw mk)) ⟨fd.scope,Dw mk,4⟩ f.names fd.body f.body&&c5 fd.globals bU&&c5 fd.builtins dz&&
 LL g fd.code fd.qualname&&fd.closure.isEmpty&&F9 g fd.defaults f.dflt&&rh f.dflt.length f.params&&
 mk.all λm=>isRef fd.code m.2.1&&fd.qualname++".<locals>."++m.1==m.2.2.2
def Pk(g:ud)(a:Nat)(f:bw)(mk:Option (bA×Nat×Nat×bA)):Bool:=(g a).any λo=>(VX o.data).any λfd=>Xr g f mk fd
def fnAt(g:ud)(a:Nat):Bool:=(FT a).all λf=>Pk g a f (SJ a)
def KR(v:Option (Option aB))(n:String):Bool:=v.any λv=>v.any λv=>vU v n
noncomputable def DM(v:Option (Option aB)):Bool:=v.any λv=>v.isNone
def zJ(v:Option aB)(n:String):Bool:=v.any λv=>Bx v n
def Ge(g:ud)(K:Frag)(c:Nat)(f:bw):Bool:=
 KR (findIn K (.ref c) "__getattribute__") "object.__getattribute__"&&DM (findIn K (.ref c) "__getattr__")&&hasDictIn K c&&
 KR (findIn K (.ref c) "__setattr__") "object.__setattr__"&&plainOver K c&&makesIn K c&&keepIn K (.ref c)&&(g c).isSome&&
 ((ae 15).all λk=>DM (takerIn K c (attrName k))&&(findIn K (.ref c) (attrName k)).any λattr=>noGet K attr)&&
 (findIn K (.ref c) "__init__").any λv=>v.any λv=>(vR v).any λi=>zJ (typeIn K (.ref i)) "function"&&Pk g i f none
def Ks(g:ud)(K:Frag)(k:Nat):Bool:=(oV 490 k).all λf=>((findIn K (.ref 490) (attrName k)).any λv=>v.any λv=>isRef v f)&&zJ (typeIn K (.ref f)) "function"&&(g f).isSome
def Xj(g:ud):Bool:=GT.all λp=>(kK (FQ g bU) p.1).any λv=>AE g p.2 v
noncomputable def bis:List BI:=[.len,.range,.list,.set,.abs,.int,.max,.min,.sum,.sorted]
def aaR(g:ud):Bool:=bis.all λb=>(kK (FQ g bU) b.word).isNone&&(kK (FQ g dz) b.word).any λv=>decide (v=b.val)
def TJ(g:ud):Bool:=(kK (FQ g bU) (aa "enumerate")).isNone&&zJ (kK (FQ g dz) (aa "enumerate")) "enumerate"
def Wa(g:ud):Bool:=FR g cStatics&&(kK (FQ g cStatics) "sys.recursionlimit").isNone
def XB(g:ud):Bool:=(kK (FQ g bU) "__builtins__").any λv=>(vR v).any λb=> !(c5 b dz)&& !(c5 b bU)&&(g b).any λo=>
 Bx o.cls "module"&&o.dict.any (λd=>c5 d dz)&&oP_ o.data
def WU(g:ud)(c P:Nat):Bool:=(g c).any λo=>Bx o.cls "code"&& !(c5 c P)&&(Oc o.data).any λvs=>
 (vs.toList[11]?:Option aB).any (λv=>isRef v P)&&(vs.toList[18]?:Option aB).any (λv=>(vS v).isSome)&&(vs.toList[7]?:Option aB).any (λv=>(vI v).isSome)&&
   (vs.toList[9]?:Option aB).any (λv=>(vB v).isSome)&&(vs.toList[10]?:Option aB).any λv=>(vI v).isSome
def restOk(g:ud):Bool:=
 Ge g (Uz g) 97 jT&&Ge g (Uz g) 140 kC&&Ge g (Uz g) 490 dP&&([20,21,22,23,24].all λk=>Ks g (Uz g) k)&&
 FR g bU&&FR g dz&&Wa g&&Xj g&&aaR g&&TJ g&&XB g&&(kJ.all λq=>WU g q.1 q.2)
def baseOk(g:ud):Bool:=(ae 748).all (fnAt g)&&restOk g
def Jr(g:ud)(P:Nat):Bool:=(g P).any λo=>vN o.cls&&o.dict.isNone&&o.slots.toList.isEmpty&&(Oc o.data).any λvs=>vs.toList.isEmpty
def qF(g:ud):Bool:=baseOk (gB g)&&(kJ.all λq=>Jr g q.2)
variable{g:ud}
theorem rn{a:Bool}(h:a=true)(k:b=true):(a&&b)=true:=by rw[h,k];rfl
theorem EA{a:Bool}(h:(a&&b)=true):a=true/\b=true:=by induction a using ax<;>induction b using ax<;>first|exact⟨rfl,rfl⟩|exact ff h
theorem rH{n:String}(h:Bx v n=true):v=.type n:=by
 induction v using eT<;>first|exact ff h|exact congrArg _ (eq_of_beq h)
theorem U4{n:String}(h:vU v n=true):v=.builtin n:=by
 induction v using eT<;>first|exact ff h|exact congrArg _ (eq_of_beq h)
theorem Jf(h:vN v=true):v=.none:=by
 induction v using eT<;>first|exact ff h|rfl
theorem Qm(h:vB v=some b):v=.bool b:=by
 induction v using eT<;>first|exact nn h|exact congrArg _ (ag h)
theorem Jg{i:Int}(h:vI v=some i):∃t,v=.int i t:=by
 induction v using eT<;>first|exact nn h|(obtain rfl:=ag h;exact⟨_,rfl⟩)
theorem E3{i:bA}(h:vS v=some i):∃t,v=.str i t:=by
 induction v using eT<;>first|exact nn h|(obtain rfl:=ag h;exact⟨_,rfl⟩)
theorem yg(h:vR v=some a):v=.ref a:=by
 induction v using eT<;>first|exact nn h|exact congrArg _ (ag h)
theorem oY{n:Nat}(h:isRef v n=true):v=.ref n:=oP h λ_ h e=>(yg h).trans (congrArg _ (bN e))
theorem VV{d:Data}(h:oP_ d=true):d=.plain:=by
 induction d using lL<;>first|exact ff h|rfl
theorem Fp{d:Data}{vs:Array aB}(h:Sx d=some vs):∃n,d=.seq vs n:=by
 induction d using lL<;>first|exact nn h|(obtain rfl:=ag h;exact⟨_,rfl⟩)
theorem Od{d:Data}{vs:Array b7}(h:Oe d=some vs):∃n,d=.dict vs n:=by
 induction d using lL<;>first|exact nn h|(obtain rfl:=ag h;exact⟨_,rfl⟩)
theorem Ob{d:Data}(h:VX d=some fd):d=.func fd:=by
 induction d using lL<;>first|exact nn h|exact congrArg _ (ag h)
theorem zv{d:Data}{vs:Array aB}(h:Oc d=some vs):d=.fields vs:=by
 induction d using lL<;>first|exact nn h|exact congrArg _ (ag h)
theorem k_{α:Type}{v:Option α}(h:v.isNone=true):v=none:=d_.mp h
theorem gz{α:Type}{v:Option α}(h:v.isSome=true):∃x,v=some x:=iM.mp h
theorem By{v:Option (Option aB)}{n:String}(h:KR v n=true):v=some (some (.builtin n)):=
 oS h λ_ h=>oS h λ_ h=>congrArg (λx=>some (some x)) (U4 h)
theorem yz{v:Option (Option aB)}(h:DM v=true):v=some none:=oS h λ_ h=>congrArg some (k_ h)
theorem sG{v:Option aB}{n:String}(h:zJ v n=true):v=some (.type n):=oS h λ_ h=>congrArg some (rH h)
theorem zy{α:Type}{v:Array α}(h:v.toList.isEmpty=true):v=#[]:=congrArg lW (fe.mp h)
theorem Kz{es:Array b7}:nsFind es x=kK es.toList x:=by
 obtain⟨l⟩:=es
 show((List.toArray l).find? _).map _=_;refine eW (List.find?_toArray ..) ?_;rfl
theorem Kk(e:FR h.get? a=true):h.Ns a λx=>kK (FQ h.get? a) x:=
 oP e λo q e=>oP e λes d e=>xE (Od d) λn d'=>⟨o,es,n,q,d',λx hx=>xE (gz (aH.mp e x (Array.mem_toList_iff.mpr hx))) λ_ h=>xE (E3 h) λ_ h=>⟨_,_,h⟩,
  λx=>Kz.trans (congrArg (λl:List b7=>kK l x) (congrArg (λo:Option (Array b7)=>o.elim [] Array.toList) (bs (f:=λo:jX=>Oe o.data) q d)).symm)⟩
theorem Kh{o:jX}{c:aB}{d:Option aO}{t:Data}{s:Array (Option aB)}(h1:o.cls=c)(h2:o.dict=d)(h3:o.data=t)(h4:o.slots=s):o=⟨c,d,t,s⟩:=h1▸h2▸h3▸h4▸rfl
theorem AD(h1:∀v,AE g d v=true->Rep C G v d)(h2:∀vs,j4 g ds vs=true->bB C G vs ds)(vs:List aB):j4 g (d::ds) vs=true->bB C G vs (d::ds):=
 vs.casesOn (motive:=λvs=>j4 g (d::ds) vs=true->bB C G vs (d::ds)) (λh=>ff h) λv vs h=>an h λa b=>.cons (h1 v a) (h2 vs b)
theorem E2(vs:List aB):j4 g [] vs=true->bB C G vs []:=
 vs.casesOn (motive:=λvs=>j4 g [] vs=true->bB C G vs []) (λ_=>.nil) λ_ _ h=>ff h
theorem E0(hb:∀b o,C.B.get? b=some o->G.F b=some o)(hg:∀b o,g b=some o->C.B.get? b=some o)(d:FV):∀(v:aB),AE g d v=true->Rep C G v d:=
 FV.rec (motive_1:=λd=>∀v,AE g d v=true->Rep C G v d) (motive_2:=λds=>∀vs,j4 g ds vs=true->bB C G vs ds) (motive_3:=λ_=>True) (motive_4:=λ_=>True) (motive_5:=λ_=>True) (motive_6:=λ_=>True)
  (λ_ h=>Jf h▸.none) (λ_ _ h=>oP h λ_ e h=>Qm e▸eq_of_beq h▸.bool _) (λ_ _ h=>oP h λ_ e h=>xE (Jg e) λ_ e=>e▸eq_of_beq h▸.int _ _) (λ_ _ h=>oP h λ_ e h=>xE (E3 e) λ_ e=>e▸eq_of_beq h▸.str _ _)
  (λxs ih v h=>oP h λa e h=>yg e▸oP h λo ho h=>Mc h λt n s h=>oP h λvs hs h=>xE (Fp hs) λn hs=>.tup (n:=n) (vs:=vs.toList) (hb _ _ (hg _ _ (ho.trans (congrArg some (Kh (rH t) (k_ ‹_›) hs (zy s)))))) (ih _ h))
  (λ_ _ _ h=>ff h) (λ_ _ _ h=>ff h) (λ_ _ h=>ff h) (λ_ _ _ _ h=>ff h) (λ_ _ h=>an h λa b=>xE (gz b) λ_ b=>oY a▸.obj (hg _ _ b)) (λ_ _ _ _ h=>ff h) (λ_ _ _ _ h=>ff h) (λ_ h=>ff h)
  E2 (λ_ _ h1 h2=>AD h1 h2) trivial (λ_ _ _ _=>trivial) trivial (λ_ _ _ _=>trivial) (λ_ _ _=>trivial) (λ_ _ _=>trivial) d
theorem Jd(hb:∀b o,C.B.get? b=some o->G.F b=some o)(hg:∀b o,g b=some o->C.B.get? b=some o)(ds:List FV):∀(vs:List aB),j4 g ds vs=true->bB C G vs ds:=
 ds.rec E2 λd _ ih=>AD (E0 hb hg d) ih
theorem PF{q:bA}(h:LL g cv q=true):mX g cv q:=
 oP h λc e h=>oP h λo ho h=>oP h λvs hd h=>oP h λv hv h=>oP h λx hx h=>xE (E3 hx) λt hx=>⟨c,o,vs,t,yg e,ho,zv hd,(pB).symm.trans (hv.trans (congrArg some (hx.trans (eq_of_beq h▸rfl))))⟩
theorem TK(hv:fd.defaults=v)(h:F9 C.B.get? v ds=true):
 ∃vs,(∀G:Gh,(∀b o,C.B.get? b=some o->G.F b=some o)->bB C G vs ds)/\Dflts C.B fd vs:=
 (iO.mp h).elim (λh=>an h λa b=>⟨[],λ_ _=>fe.mp a▸.nil,.inl ⟨hv.trans (Jf b),rfl⟩⟩)
   λh=>oP h λT e h=>oP h λo ho h=>oP h λvs hs h=>xE (Fp hs) λn hs=>⟨vs.toList,λ_ hG=>Jd hG (λ_ _ e=>e) _ _ h,.inr ⟨T,o,n,hv.trans (yg e),ho,hs⟩⟩
def Ul(C:Cx)(mk:Option (bA×Nat×Nat×bA)):Prop:=∀m,mk=some m->(m.2.1,m.2.2.1)∈C.tabs/\C.tq m.2.2.1=m.2.2.2
theorem oA{α:Type u}{o:Option α}{f:α->Bool}{a:α}(h:o.all f=true)(e:o=some a):f a=true:=(show(some a).all f=true from e▸h)
theorem Xq{a:Nat}{mk:Option (bA×Nat×Nat×bA)}{o:jX}(hm:Ul C mk)(ho:C.B.get? a=some o)(hd:o.data=.func fd)(h:Xr C.B.get? f mk fd=true):
 ∃fd vs,FnAt C C.B.get? a f [] fd/\(∀G:Gh,(∀b o,C.B.get? b=some o->G.F b=some o)->bB C G vs f.dflt)/\Dflts C.B fd vs/\f.dflt.length<=f.params:=
 XH h λh k4 k3 k2 k1=>Mb h λh k9 k8 k7 k6 k5=>bS (TK rfl k3) λvs d1 d2=>
  ⟨fd,vs,⟨⟨o,ho,hd⟩,⟨Dw mk,⟨h,k9,k8⟩,λ_ hn=>Ap hn λm e hn=>have q:=oA k1 e;an q λh1 h2=>xA (hm m e) λm1 m2=>
    ⟨_,_,oY h1,m1,ag hn▸(eq_of_beq h2).trans m2.symm⟩⟩,bN k7,bN k6,PF k5,λj x hx=>nn (((congrArg (λl:List bA=>l[j]?) (M4)).symm).trans hx),
    λ_=>fe.mp k4⟩,d1,d2,av k2⟩
theorem Q0{a:Nat}{mk:Option (bA×Nat×Nat×bA)}(hm:Ul C mk)(h:Pk C.B.get? a f mk=true):
 ∃fd vs,FnAt C C.B.get? a f [] fd/\(∀G:Gh,(∀b o,C.B.get? b=some o->G.F b=some o)->bB C G vs f.dflt)/\Dflts C.B fd vs/\f.dflt.length<=f.params:=
 oP h λ_ ho h=>oP h λ_ hd h=>Xq hm ho (Ob hd) h
theorem SH:(TBL.all λt=>decide ((t.2.2.1,t.2.2.2.1)∈kJ)&&Yj t.2.2.2.1==t.2.2.2.2)=true:=by kernel_rfl
theorem V3(ht:C.tabs=kJ)(hq:C.tq=Yj)(a:Nat):Ul C (SJ a):=λ_ hm=>bS (c8.mp hm) λ_ e q=>q▸ht▸hq▸an (aH.mp SH _ (iE e)) λx y=>⟨of_decide_eq_true x,eq_of_beq y⟩
theorem Tz(n:Nat):FT (n+748)=none:=by kernel_rfl
theorem Xn{a:Nat}(h:FT a=some f):a<748:=
 Qf λq=>xE (Nat.exists_eq_add_of_le' q) λn e=>nn ((Tz n).symm.trans (e▸h))
theorem Hw{a:Nat}{o:jX}(l:List Nat):(l.filterMap λa=>(g a).map λo=>(a,o)).lookup a=some o->g a=some o:=
 l.rec (λh=>nn h) λb l ih h=>by
  rw[lI]at h;induction q:g b using aA with
  |none=>rw[q]at h;exact ih h
  |some o'=>
   rw[q]at h;exact V_ h (λe x=>e▸x▸q) λ_ h=>ih h
theorem LH{P:Nat->bw->Prop}(h1:P 97 jT)(h2:P 140 kC)(h3:P 490 dP)(a:Nat)(f:bw)(h:CT a=some f):P a f:=
 se h (λe h=>e▸ag h▸h1) λ_ h=>se h (λe h=>e▸ag h▸h2) λ_ h=>se h (λe h=>e▸ag h▸h3) λ_ h=>nn h
structure Ao(C:Cx)(c:Nat)(f:bw):Prop where
 get:findIn C.K (.ref c) "__getattribute__"=some (some (.builtin "object.__getattribute__"))/\findIn C.K (.ref c) "__getattr__"=some none/\hasDictIn C.K c=true
 set:findIn C.K (.ref c) "__setattr__"=some (some (.builtin "object.__setattr__"))/\plainOver C.K c=true
 take:∀k,k<15->takerIn C.K c (attrName k)=some none
 attr:∀k,k<15->∃attr,findIn C.K (.ref c) (attrName k)=some attr/\noGet C.K attr=true
 cls:makesIn C.K c=true/\keepIn C.K (.ref c)=true/\(∃o,C.B.get? c=some o)/\
  ∃i fd vs,findIn C.K (.ref c) "__init__"=some (some (.ref i))/\typeIn C.K (.ref i)=some (.type "function")/\FnAt C C.B.get? i f [] fd/\(∀G,(∀b o,C.B.get? b=some o->G.F b=some o)->bB C G vs f.dflt)/\Dflts C.B fd vs/\f.dflt.length<=f.params
theorem Ek(h:Ge C.B.get? C.K c f=true):Ao C c f:=
 XH h λh k4 k3 k2 k1=>Mb h λh k9 k8 k7 k6 k5=>
 have each:∀k,k<15->takerIn C.K c (attrName k)=some none/\∃attr,findIn C.K (.ref c) (attrName k)=some attr/\noGet C.K attr=true:=λk hk=>
  have q:=aH.mp k2 k (aC.mpr hk)
  an q λa b=>⟨yz a,oP b λx e h=>⟨x,e,h⟩⟩
 ⟨⟨By h,yz k9,k8⟩,⟨By k7,k6⟩,λk hk=>(each k hk).1,λk hk=>(each k hk).2,k5,k4,gz k3,
   oP k1 λv e1 h=>oP h λv e2 h=>oP h λi e3 h=>an h λa b=>u_ (Q0 (mk:=none) (λm hm=>nn hm) b) λfd vs r=>⟨i,fd,vs,e1.trans (congrArg some (e2.trans (congrArg some (yg e3)))),sG a,r⟩⟩
theorem Kr(k:Nat)(f:Nat)(e:oV 490 k=some f):k∈[20,21,22,23,24]:=
 se e (λ_ e=>se e (λq _=>q▸aF (i:=0) rfl) λ_ e=>se e (λq _=>q▸aF (i:=1) rfl) λ_ e=>se e (λq _=>q▸aF (i:=2) rfl) λ_ e=>
  se e (λq _=>q▸aF (i:=3) rfl) λ_ e=>se e (λq _=>q▸aF (i:=4) rfl) λ_ h=>nn h) λh _=>absurd rfl h
theorem Ot(h:∀k∈[20,21,22,23,24],Ks C.B.get? C.K k=true)(c k f:Nat)(e:oV c k=some f):findIn C.K (.ref c) (attrName k)=some (some (.ref f))/\typeIn C.K (.ref f)=some (.type "function")/\∃o,C.B.get? f=some o:=
 se e (λhc _=>by
  subst hc
  have h:=oA (h k (Kr k f e)) e;exact rW h λh1 h2 h3=>oP h1 λv e1 h=>oP h λv e2 h=>⟨e1.trans (congrArg some (e2.trans (congrArg some (oY h)))),sG h2,gz h3⟩) λ_ h=>nn h
theorem SO{β:Type}{d:β}(l:List (bA×β)):l.lookup x=some d->(x,d)∈l:=
 l.rec (λh=>nn h) λ_ _ ih h=>V_ h (λe q=>e▸q▸a7) λ_ h=>aW _ (ih h)
theorem Xi(h:Xj C.B.get?=true)(x:bA)(d:FV)(e:GT.lookup x=some d):∃v,kK (FQ C.B.get? bU) x=some v/\∀G:Gh,(∀b o,C.B.get? b=some o->G.F b=some o)->Rep C G v d:=
 have h:=aH.mp h _ (SO _ e)
 oP h λv q h=>⟨v,q,λ_ hG=>E0 hG (λ_ _ e=>e) d v h⟩
theorem L_{vs:Array aB}(e:vs.toList[i]?=some v):vs[i]?=some v:=(pB).symm.trans e
theorem rV{vs:Array aB}(e:vs.toList[i]?=some v)(q:v=u):vs.getD i .none=u:=(Array.getD_eq_getD_getElem?).trans ((congrArg (·.getD Iu) (L_ e)).trans q)
theorem zA{a b:Nat}(h:(!(c5 a b))=true):a≠b:=λe=>ff ((congrArg not ((e▸ES a:c5 a b=true))).symm.trans h)
theorem WT{P:Nat}(h:WU C.B.get? c P=true):CodeHd C.B c P:=
 oP h λo ho h=>rW h λh0 h1 h=>oP h λvs hd h=>XH h λh k5 k4 k3 k2=>oP h λ_ e11 VJ=>oP k5 λ_ e18 VI=>oP k4 λ_ e7 q7=>oP k3 λ_ e9 q9=>oP k2 λ_ e10 NU=>
  xE (gz VI) λ_ VI=>xE (E3 VI) λ_ VI=>xE (gz q7) λ_ q7=>xE (Jg q7) λ_ q7=>xE (gz q9) λ_ q9=>xE (gz NU) λ_ NU=>xE (Jg NU) λ_ NU=>
  ⟨o,vs,_,_,_,_,_,_,_,ho,rH h0,zv hd,(L_ e11).trans (congrArg some (oY VJ)),rV e11 (oY VJ),rV e18 VI,rV e7 q7,rV e9 (Qm q9),rV e10 NU,zA h1⟩
theorem XA(h:XB C.B.get?=true):∃bm o,kK (FQ C.B.get? bU) "__builtins__"=some (.ref bm)/\bm≠dz/\bm≠bU/\C.B.get? bm=some o/\o.cls=.type "module"/\o.dict=some dz/\o.data=.plain:=
 oP h λ_ e h=>oP h λb q h=>rW h λh1 h2 h=>oP h λo ho h=>rW h λh3 h4 h5=>oP h4 λ_ d h4=>⟨b,o,e.trans (congrArg some (yg q)),zA h1,zA h2,ho,rH h3,d.trans (congrArg some (bN h4)),VV h5⟩
theorem PT(hK:C.K=Uz C.B.get?)(Tj:C.mg=λx=>kK (FQ C.B.get? bU) x)(Z_:C.mb=λx=>kK (FQ C.B.get? dz) x)(ht:C.tabs=kJ)(hq:C.tq=Yj)
 (tg:∀q∈kJ,C.B.get? q.2=none)(h:baseOk C.B.get?=true):Base C:=
 an h λh hr=>
 TZ hr λhr k6 k5 k4 k3 k2 k1=>Mb hr λc1 c2 c3 k9 k8 k7=>
 have cf:∀a f,CT a=some f->Ao C a f:=LH (Ek (hK▸c1)) (Ek (hK▸c2)) (Ek (hK▸c3))
 have cs:∀c,(CT c).isSome=true->∃f,Ao C c f:=λc hc=>xE (gz hc) λf e=>⟨f,cf c f e⟩
 have mem:∀b:BI,b∈bis:=λb=>aF (i:=b.ctorIdx) (by induction b using BI.casesOn<;>rfl)
 have bi:=λb=>EA (aH.mp k4 b (mem b))
 an k3 λe1 e2=>an k6 λl1 l2=>
 {QF:=hK▸λa o e=>Hw _ e,wM:=λc hc=>xE (cs c hc) λ_ x=>x.get,LM:=λc hc=>xE (cs c hc) λ_ x=>x.set,Gd:=λc k hc=>xE (cs c hc) λ_ x=>x.take k,z8:=λc k hc=>xE (cs c hc) λ_ x=>x.attr k,
  ef:=Ot (λk hk=>hK▸aH.mp k9 k hk),fn:=λa f hf=>Q0 (V3 ht hq a) (oA (f:=λf=>Pk C.B.get? a f (SJ a)) (aH.mp h a (aC.mpr (Xn hf))) hf),cls:=λa f hf=>(cf a f hf).cls,g:=Tj▸Kk k8,b:=Z_▸Kk k7,
  nolimit:=⟨_,Kk l1,k_ l2⟩,gt:=Tj▸Xi k5,free:=λb _=>Tj▸k_ (bi b).1,bi:=λb=>Z_▸oP (bi b).2 λ_ e q=>e.trans (congrArg some (of_decide_eq_true q)),enum:=⟨Tj▸k_ e1,Z_▸sG e2⟩,
  hd:=ht▸λq hq=>WT (aH.mp k1 q hq),bm:=Tj▸XA k2,nod:=ht▸(by decide),tg:=ht▸tg}
noncomputable def RQ:List jX->Nat->BT->BT
 |[],_,t=>t
 |o::r,n,t=>RQ r (n+1) (t.ins n o)
noncomputable def D8(T:BT)(n:Nat):ud:=λa=>(Nat.blt a n).casesOn none ((T.get a).bind alive)
noncomputable def QY(T:BT)(n:Nat):Bool:=(ae n).all λa=>(T.get a).isSome
theorem Ph{T:BT}{n:Nat}{life:Life}(h:QY T n=true):(absHeap T n life).get?=D8 T n:=funext λa=>by
 unfold D8;induction e:Nat.blt a n using ax with
 |false=>exact abs_get_none λq=>ff (e.symm.trans (Nat.ble_eq_true_of_le q))
 |true=>
  have lt:a<n:=av e;exact xE (gz (aH.mp h a (aC.mpr lt))) λo ho=>(abs_get lt ho).trans (bs ho rfl).symm
noncomputable def E4(h:eu):List (aO×aO)->eu
 |[]=>h
 |q::r=>(E4 h r).update q.2 λo=>{o with data:=.freed}
theorem CQ(k:eu)(P:aO):(k.update P λo=>{o with data:=.freed}).get? P=none:=by
 show(match(k.update P _).objs[P]?with|some ⟨_,_,.freed,_⟩=>none|o=>o)=none;refine eW (show(k.update P λo=>{o with data:=.freed}).objs=k.objs.modify P λo=>{o with data:=.freed}from rfl)<|eW Array.getElem?_modify<|eW (if_pos rfl) ?_;induction k.objs[P]?using aA<;>rfl
theorem GH(h:eu)(b:aO)(l:List (aO×aO)):(E4 h l).get? b=if l.any (λq=>c5 q.2 b)then none else h.get? b:=
 l.rec rfl λq r ih=>by
  refine eW List.any_cons ?_;induction z:c5 q.2 b using ax with
  |true=>exact(congrArg (E4 h (q::r)).get? (bN z).symm).trans (CQ _ _)
  |false=>exact(Heap.get?_update_ne _ _ _ _ λe:b=q.2=>ff (z.symm.trans ((congrArg (c5 q.2) e).trans (ES _)))).trans ih
def uj(w:fP)(B:eu):Cx where
 w:=w
 B:=B
 mg:=λx=>kK (FQ B.get? bU) x
 mb:=λx=>kK (FQ B.get? dz) x
 tabs:=kJ
 K:=Uz B.get?
 tq:=Yj
theorem PW{w:fP}(e:B.get?=gB g)(h:baseOk (gB g)=true):Base (uj w B):=
 PT (C:=uj w B) rfl rfl rfl rfl rfl (λq hq=>by
  show B.get? q.2=none;exact eW e<|if_pos (iy.mpr ⟨q,hq,ES _⟩)) (by
  show baseOk B.get?=true;exact eW e<|h)
theorem tab_of{P:Nat}(h1:Jr g P=true):g P=some (tabObj #[]):=
 oP h1 λo ho h=>Mc h λh1 h2 h3 h=>oP h λvs hs h=>ho.trans (congrArg some (Kh (Jf h1) (k_ h2) ((zv hs).trans (congrArg _ (zy h))) (zy h3)))
def xm(w:fP)(h:eu):Prop:=∃B:eu,Base (uj w B)/\(∀b o,B.get? b=some o->h.get? b=some o)/\∀q∈kJ,h.get? q.2=some (tabObj #[])
theorem xm.keeps{w:fP}(x:xm w h)(k:∀b o,h.get? b=some o->h'.get? b=some o):xm w h':=
 dT (x) λB e1 e2 e3=>⟨B,e1,λb o e=>k _ _ (e2 b o e),λq hq=>k _ _ (e3 q hq)⟩
theorem Hx{w:fP}(e:qF h.get?=true):xm w h:=
 have g:(E4 h kJ).get?=gB h.get?:=funext λb=>GH h b kJ
 an e λe1 e2=>⟨_,PW g e1,λb o x=>se ((congrFun g b).symm.trans x) (λ_ q=>nn q) λ_ q=>q,λq hq=>tab_of (aH.mp e2 q hq)⟩
noncomputable def qv:Program:=view pw [136]
noncomputable def loose:List bA:=pw.boundNames
def startT(w:fP)(os:OsState):SharedT:=⟨RQ (ek w.params).objs.toList 0 .nil,(ek w.params).objs.size,(ek w.params).life,lW [],Ug,XS,os⟩
theorem GR(w:fP)(os:OsState):(startT w os).abs=⟨ek w.params,lW [],Ug,XS,os⟩:=by
 have:∀P:Params,(RQ (ek P).objs.toList 0 .nil).list (ek P).objs.size=(ek P).objs.toList:=λP=>by kernel_rfl
 show Shared.mk (Heap.mk _ _) _ _ _ _=_;exact eW (show(startT w os).tree.list (startT w os).n=_ from this w.params) rfl
noncomputable def ze(xD:Nat)(ann:Option aB)(w:fP):Nat->SharedT->Thread->Option SharedT
 |0,_,_=>none
 |n+1,s,t=>(through t).casesOn ((Fast.tw6613529449190102663 xD ann t).casesOn none ((Fast.tw10156331382660048174 (Fast.tw11892475500146522536 Fast.tw14364793385576792824) pw w s t).casesOn none λr=>r.casesOn λs' t'=>ze xD ann w n s' t')) (some s)
theorem bcs{α:Type u}{b:Bool}{x y:α}{z:α}{P:Prop}(h:(b.casesOn x y:α)=z)(f:b=false->x=z->P)(t:b=true->y=z->P):P:=
 b.casesOn (motive:=λb=>(b.casesOn x y:α)=z->(b=false->x=z->P)->(b=true->y=z->P)->P) (λh f _=>f rfl h) (λh _ t=>t rfl h) h f t
theorem U7{xD:Nat}{ann:Option aB}{w:fP}{n:Nat}{s:SharedT}{t:Thread}{r:SharedT×Thread}(h1:through t=false)(h2:stepOk xD ann t=true)(h3:stepT (denote treeTable) pw w s t=some r):
 topRun treeTable pw w xD ann (n+1) s.abs t=topRun treeTable pw w xD ann n r.1.abs r.2:=by
 show(match through t with|true=>_|false=>match stepOk xD ann t with|false=>_|true=>match step (denote treeTable) pw w s.abs t with|.go s' t'=>_|.halt _ _=>_)=_;rw[h1,h2,stepT_spec h3]
theorem CU{xD:Nat}{ann:Option aB}{w:fP}(n:Nat):∀(s:SharedT)(t:Thread)(s':SharedT),ze xD ann w n s t=some s'->topRun treeTable pw w xD ann n s.abs t=some s'.abs:=
 n.rec (λ_ _ _ h=>nn h) λn ih s t s' h=>bcs h (λh1 h=>bcs h (λ_ h=>nn h) λh2 h=>by
  rw[<-Fast.te6613529449190102663]at h2;rw[<-Fast.te10156331382660048174,<-Fast.te11892475500146522536,<-Fast.te14364793385576792824]at h;cases hs:stepT (denote treeTable) pw w s t with
  |none=>rw[hs]at h;exact nn h
  |some r=>rw[hs]at h;exact(U7 h1 h2 hs).trans (ih _ _ _ h)) λh1 h=>by
   show(match through t with|true=>_|false=>_)=_;rw[h1,ag h]
noncomputable def zf(w:fP)(os:OsState):Option SharedT:=ze (ek w.params).objs.size ((ek w.params).nsMap bU "__annotations__") w 9372 (startT w os) (topStub pw)
theorem Vz(w:fP)(os:OsState):(zf w os).map (λs=>
 (staticsOk (importedModules pw.main.body) (ek w.params) s.abs.heap&&namesBound pw s.abs.heap&&gensDone s.abs&&laidKept (ek w.params) s.abs.heap,openSeen qv loose (importedModules pw.main.body) (λ_=>true) true s.abs))=some (true,openGood qv loose):=by
 kernel_rfl
theorem Vy(w:fP)(os:OsState):(zf w os).map (λs=>QY s.tree s.n&&(ae 374).all (fnAt (gB (D8 s.tree s.n))))=some true:=by
 kernel_rfl
theorem Vx(w:fP)(os:OsState):(zf w os).map (λs=>(ae 374).all λa=>fnAt (gB (D8 s.tree s.n)) (374+a))=some true:=by
 kernel_rfl
theorem Vw(w:fP)(os:OsState):(zf w os).map (λs=>restOk (gB (D8 s.tree s.n))&&(kJ.all λq=>Jr (D8 s.tree s.n) q.2))=some true:=by
 kernel_rfl
theorem T5{f:Nat->Bool}(h:(ae 374).all f=true)(k:((ae 374).all λa=>f (374+a))=true):(ae 748).all f=true:=
 aH.mpr λa ha=>if q:a<374 then aH.mp h a (aC.mpr q)else
  cH (cG.mp q)▸aH.mp k (a-374) (aC.mpr (mV (cG.mp q) (aC.mp ha)))
theorem zr{α:Type u}{o:Option α}{f:α->Bool}{s:α}(r:o=some s)(h:o.map f=some true):f s=true:=ag ((ms r).symm.trans h)
theorem Sg(w:fP)(os:OsState):∃s',topRun treeTable pw w (ek w.params).objs.size ((ek w.params).nsMap bU "__annotations__") 9372 ⟨ek w.params,lW [],Ug,XS,os⟩ (topStub pw)=some s'/\
 (staticsOk (importedModules pw.main.body) (ek w.params) s'.heap&&namesBound pw s'.heap&&gensDone s'&&laidKept (ek w.params) s'.heap)=true/\
 openSeen qv loose (importedModules pw.main.body) (λ_=>true) true s'=openGood qv loose/\qF s'.heap.get?=true:=by
 obtain⟨s,r,a⟩:=c8.mp (Vz w os)
 have b:=zr r (Vy w os)
 have c:=zr r (Vx w os)
 have d:=zr r (Vw w os);obtain⟨a1,a2⟩:=gd a
 have r:=CU _ _ _ _ r;rw[GR]at r;obtain⟨b1,b2⟩:=EA b;obtain⟨d1,d2⟩:=EA d
 have g:qF (D8 s.tree s.n)=true:=rn (rn (T5 b2 c) d1) d2;exact⟨s.abs,r,a1,a2,(Ph b1:s.abs.heap.get?=_)▸g⟩
theorem OC{p q:Program}{loose:List bA}{H:Params->eu}{d:Drawn}{M:Nat}(VS:∀w:fP,(fencedOpening treeTable p w N).map (λs=>(s.heap,s.gens,s.drawn,s.toks))=some (H w.params,lW [],d,k))
 (ns:∀w:fP,(H w.params).isNs bU=true)
 (run:∀(w:fP)(os:OsState),∃s',topRun treeTable p w (H w.params).objs.size ((H w.params).nsMap bU "__annotations__") M ⟨H w.params,lW [],d,k,os⟩ (topStub p)=some s'/\
   (staticsOk (importedModules p.main.body) (H w.params) s'.heap&&namesBound p s'.heap&&gensDone s'&&laidKept (H w.params) s'.heap)=true/\
   openSeen q loose (importedModules p.main.body) (λ_=>true) true s'=openGood q loose/\qF s'.heap.get?=true)(le:rh M N=true):
 LeftO p q loose (λ_=>true) (λs=>qF s.heap.get?) (λ_=>true) N:=λw=>by
 (refine bS (c8.mp (VS w)) λq1=>?_;obtain⟨h,gs,d',k',os⟩:=q1;intro e e')
 obtain⟨rfl,rfl,rfl,rfl⟩:h=H w.params/\gs=lW []/\d'=d/\k'=k:=by simpa only[MX]using e'
 (refine oB (run w os) λs' r l1 l2 l3=>?_)
 have r:=topRun_mono (N-M) _ _ _ _ r;rw[show M+(N-M)=N from cH (av le)]at r
 have t:topFrom treeTable p w N ⟨H w.params,lW [],d',k',os⟩=some s':=by
  unfold topFrom;dsimp only;refine eW (ns w) ?_
  show(topRun treeTable p w (H w.params).objs.size ((H w.params).nsMap bU "__annotations__") N ⟨H w.params,lW [],d',k',os⟩ (topStub p)).bind _=_;exact eW r<|eW (bK ..)<|eW l1 rfl
 unfold openEnds;exact eW e<|eW (bK ..)<|eW t<|congrArg some (Prod.ext l2 l3)
noncomputable def uf:Program:=cD.row.toRowW.prog
theorem V7:(sreFenced uf.main&&((moduleNames uf.main.body).isEmpty||lookedIntoSs (moduleNames uf.main.body) uf.main.body)&&namesResolve uf&&uf.boundNames.all (λn=> !worldNames.contains n))=true:=by kernel_rfl
theorem V6:noRoadLSs {strict:= !(importedModules uf.main.body).all cThrough.contains,foot:=none,bare:=(["vars","dir","locals"]:List bA).filter (readsOut uf uf.main.body)} uf.main.body=true:=by kernel_rfl
theorem V5:(namesMeet uf uf.main.body λ_ n=>attrL n)=true:=by kernel_rfl
theorem GY:looksOpen cD.row.toRowW.prog=true:=rn (rn V7 V6) V5
theorem Bv:cD.wellSaid=true:=by
 unfold OpenLaw.wellSaid OpenRow.wellSaid OpenRow.partSaid;rw[GY]
 kernel_rfl
noncomputable def wI(d:WData):Option Int:=d.casesOn none (λ_=>none) some (λ_=>none) (λ_=>none) (λ_=>none) (λ_=>none) (λ_=>none) (λ_=>none) (λ_=>none) (λ_=>none) (λ_=>none) λ_ _=>none
noncomputable def wL(d:WData):Option (List WData):=d.casesOn none (λ_=>none) (λ_=>none) (λ_=>none) some (λ_=>none) (λ_=>none) (λ_=>none) (λ_=>none) (λ_=>none) (λ_=>none) (λ_=>none) λ_ _=>none
theorem NX(x:WData):Gv [] x .int=true->∃i,x=.int i:=by
 induction x using Ro<;>first|exactλ_=>⟨_,rfl⟩|exactλh=>ff h
theorem NW(x:WData):Gv [] x (.list .int)=true->∃xs,x=.list xs/\uY [] xs .int=true:=by
 induction x using Ro<;>first|exactλh=>⟨_,rfl,(fQ _).symm.trans h⟩|exactλh=>ff h
theorem J5(xs:List WData):uY [] xs .int=true->∃ns:List Int,xs=ns.map qw:=
 xs.rec (λ_=>⟨[],rfl⟩) λx xs ih h=>an h λh1 h2=>xE (NX x h1) λi e=>xE (ih h2) λns q=>⟨i::ns,e▸q▸rfl⟩
theorem C9{cl:bA->Option aO}{xs:List WData}{as:List aO}(r:ReadsAllW [] cl h vs xs as):∀ns:List Int,xs.map wI=ns.map some->bB C G vs (ns.map FV.int):=
 ReadsAllW.rec (motive_1:=λv d _ _=>∀i,wI d=some i->Rep C G v (.int i)) (motive_2:=λvs xs _ _=>∀ns:List Int,xs.map wI=ns.map some->bB C G vs (ns.map FV.int)) (motive_3:=λ_ _ _ _=>True)
  (λ_ e=>nn e) (λ_ _ e=>nn e) (λ_ _ _ e=>ag e▸.int _ _) (λ_ _ _ e=>nn e) (λ_ _ _ _ _ _ e=>nn e) (λ_ _ _ _ _ _ e=>nn e) (λ_ _ _ _ _ _ _ _ e=>nn e)
  (λ_ _ _ e=>nn e) (λ_ _ _ e=>nn e) (λ_ _ _ _ e=>nn e) (λ_ _ _ _ _ _ _ _ e=>nn e) (λ_ _ _ _ _ _ _ _ e=>nn e) (λ_ _ _ _ _ _ _ _ _ _ _ _ _ _ _ _ e=>nn e)
  (λns=>ns.casesOn (λ_=>.nil) λ_ _ e=>nomatch e) (λ_ _ h1 h2 ns=>ns.casesOn (λe=>nomatch e) λ_ ns e=>.cons (h1 _ (aL e).1) (h2 ns (aL e).2)) trivial (λ_ _ _ _ _=>trivial) r
section
variable {w:fP}
noncomputable def G0(B:eu)(l:aO)(o:jX):Gh:=⟨λa=>(B.get? a).or (if a=l then some o else none),none⟩
theorem GG{o:jX}{x:jX}(e:B.get? a=some x):(G0 B l o).F a=some x:=congrArg (λz:Option jX=>z.or (if a=l then some o else none)) e
theorem GF{o:jX}(e:B.get? a=none):(G0 B l o).F a=if a=l then some o else none:=congrArg (λz:Option jX=>z.or (if a=l then some o else none)) e
theorem Uo{o:jX}(k:∀b o,B.get? b=some o->h.get? b=some o)(hl:h.get? l=some o):y8 (G0 B l o) h:=λ_ _ e=>Qx e (λe=>k _ _ e) λe=>dU e λz e=>z▸ag e▸hl
theorem Up{o:jX}(k:∀b o,B.get? b=some o->h.get? b=some o)(hl:h.get? l=some o):(G0 B l o).F l=some o:=by
 induction q:B.get? l using aA with
 |some y=>exact(GG q).trans ((k _ _ q).symm.trans hl)
 |none=>exact(GF q).trans (if_pos rfl)
theorem GQ{n:Nat}(k:∀b o,B.get? b=some o->h.get? b=some o)(tb:∀q∈kJ,h.get? q.2=some (tabObj #[]))(bs:Base (uj w B))
 (hl:h.get? l=some {cls:=.type "list",data:=.seq vs.toArray n}):bz (uj w B) (G0 B l {cls:=.type "list",data:=.seq vs.toArray n}) none h where
 sub:=Uo k hl
 base:=λa o e=>GG e
 tabs:=λq hq=>⟨(GF (bs.tg q hq)).trans (if_neg λe=>ff (congrArg (λz:Option jX=>z.any λ(o:jX)=>vN (Obj.cls o)) ((tb q hq).symm.trans ((congrArg h.get? e).trans hl))).symm),λe=>nn e,#[],tb q hq,trivial,λ_ _ e=>nn e⟩
 well:=trivial
theorem Tt:GT.lookup (aa "law")=some (.obj 747):=by kernel_rfl
theorem Tx:FT 747=some jm:=rfl
theorem OJ(bs:Base (uj w B)):(uj w B).mg (aa "law")=some (.ref 747):=bS (bs.gt _ _ Tt) λ_ e r=>e.trans (congrArg some (r ⟨B.get?,none⟩ λ_ _ e=>e).inv.1)
theorem aao{c P:aO}{Q:Prop}(x:CodeHd B c P)(k:∀o vs,B.get? c=some o->o.cls=.type "code"->o.data=.fields vs->vs[11]?=some (.ref P)->Q):Q:=
 x.elim λo x=>x.elim λvs x=>x.elim λ_ x=>x.elim λ_ x=>x.elim λ_ x=>x.elim λ_ x=>x.elim λ_ x=>x.elim λ_ x=>x.elim λ_ x=>k o vs x.1 x.2.1 x.2.2.1 x.2.2.2.1
theorem Ke(bs:Base (uj w B))(kb:∀b o,B.get? b=some o->s.heap.get? b=some o)(tb:∀q∈kJ,s.heap.get? q.2=some (tabObj #[]))(W:bz (uj w B) G' bQ s'.heap)
 (ha:G.aw=none)(st:Step (uj w B) G G' s s'):OldK s.heap s'.heap:=⟨λb o e=>
 if hb:∃q∈kJ,q.2=b then bS hb λq hq q2=>.inr (.inl (by
  subst q2;obtain rfl:=ag ((tb q hq).symm.trans e);exact qn (W.tabs q hq) λ_ _ ps h3 _=>aao (bs.hd q hq) λo vs c1 c2 c3 c4=>⟨⟨q.1,o,vs,kb _ _ c1,c2,c3,c4⟩,rfl,#[],ps,rfl,(congrArg (λz=>s'.heap.get? q.2=some (tabObj z)) (Array.empty_append (xs:=ps))).mpr h3⟩))
 else .inl (st.keep b o ⟨λq hq e=>hb ⟨q,hq,e⟩,λq=>nn (ha.symm.trans q)⟩ e),st.alive⟩
theorem LS{n:Nat}{ns:List Int}(hk:k<=60)(bs:Base (uj w B))(kb:∀b o,B.get? b=some o->s.heap.get? b=some o)(tb:∀q∈kJ,s.heap.get? q.2=some (tabObj #[]))
 (hl:s.heap.get? l=some {cls:=.type "list",data:=.seq vs.toArray n})(hv:∀G:Gh,bB (uj w B) G vs (ns.map FV.int))(hc:au N k (.obj 747) [.fv (.list (ns.map FV.int))] none=some (.bool true,wl)):
 aK (model pw w) callerA (call (.ref 747) [.ref l] []) (λv s'=>v=.bool true/\OldK s.heap s'.heap/\s'.os=s.os/\s'.gens=s.gens) ee s:=
 gg (bs.fn 747 jm Tx) λfd dv FA _=>bS FA.obj λof ho _=>
 dQ (LQ (N:=N) bs Ny k (.obj 747) [.fv (.list (ns.map FV.int))] none (.bool true) wl hc (G0 B l {cls:=.type "list",data:=.seq vs.toArray n}) _ (λ_=>none) s s callerA (.ref 747) [.ref l] bs rfl
  (by show 1+claimMargin+8*k+20<900;unfold claimMargin;lia) (by show 4+24*k+60<9000;lia) (GQ kb tb bs hl) (Step.refl _ _ _) (λa r e=>nn e) (.obj ho)
  ⟨λ_=>none,λ_ _ e=>nn e,.list (Up kb hl) (hv _),trivial⟩).2 (λv s' y=>dT y λG' st W' R=>⟨R.inv,Ke bs kb tb W' rfl st,st.os,st.gens⟩) λ_ _ q=>q
end
abbrev lA:RowW:=cD.row.toRowW
def xk:Prop:=∃N k:Nat,k<=60/\∀ns:List Int,ns.length<=63->∃wl,au N k (.obj 747) [.fv (.list (ns.map FV.int))] none=some (.bool true,wl)
theorem Hp{n:Nat}(h:(XT (.not (.lt (.lit (.int (63:Nat))) (.lit (.int n)))) (.lit (.bool true))).holds [] {args:=[]}=true):n<=63:=
 have F:∀b:Bool,(XT (.not (.lit (.bool b))) (.lit (.bool true))).holds [] {args:=[]}=true->b=false:=λb=>b.casesOn (λ_=>rfl) λh=>ff h
 uA.mp (pq.mp (of_decide_eq_false (F (decide ((63:Int)<(n:Int))) h)))
theorem pre_of{args:List WData}(h:lA.claim.pre args=true):∃ns:List Int,args=[.list (ns.map qw)]/\ns.length<=63:=
 an h λh1 h2=>(args.casesOn (motive:=λargs=>Qa [] args [.list .int]=true->∃xs,args=[.list xs]/\uY [] xs .int=true) (λh=>ff h)
  (λx r h=>an h λh1 h2=>bS (NW x h1) λxs e h=>⟨xs,e▸congrArg (List.cons _) (r.casesOn (motive:=λr=>Qa [] r []=true->r=[]) (λ_=>rfl) (λ_ _ h=>ff h) h2),h⟩) h1).elim λxs h=>h.elim λe h=>xE (J5 xs h) λns q=>
  ⟨ns,q▸e,aj (as:=ns) qw▸Hp (show(XT (.not (.lt (.lit (.int (63:Nat))) (.len (.arg 0)))) (.lit (.bool true))).holds [] {args:=[.list (ns.map qw)]}=true from q▸e▸h2)⟩
theorem OG{R:WRecords}{cl:bA->Option aO}{P:Params}{ord:List b7->List b7}{ys:List WData}:
 layAllW R cl P ord [.list ys] s=(layAllW R cl P ord ys s).map λr=>([uu r.2.heap.objs.size],{r.2 with heap:=r.2.heap.push {cls:=.type "list",data:=.seq r.1.toArray}}):=by
 show(match(match layAllW R cl P ord ys s with|some r=>_|ab=>_:Option (aB×aN))with|some a=>_|ab=>_)=_;induction layAllW R cl P ord ys s using aA<;>rfl
theorem HC{R:WRecords}{w:fP}{AH:aN}{ns:List Int}{as:List aO}(L:Laid R w AH aM [.list (ns.map qw)] vs as):
 ∃(l:aO)(us:List aB),vs=[.ref l]/\aM.heap.get? l=some {cls:=.type "list",data:=.seq us.toArray 0}:=
 bS L.laid λ_ _ e=>Ap (OG.symm.trans e) λ_ _ e=>pk (P:=λvs aM=>∃(l:aO)(us:List aB),vs=[.ref l]/\aM.heap.get? l=some {cls:=.type "list",data:=.seq us.toArray 0}) (ag e) ⟨_,_,rfl,bI _ rfl⟩
theorem C8{cl:bA->Option aO}{d:WData}{as:List aO}(r:ReadsW [] cl h v d as):∀l us n xs,vR v=some l->wL d=some xs->h.get? l=some {cls:=.type "list",data:=.seq us n}->∃as,ReadsAllW [] cl h us.toList xs as:=
 ReadsW.casesOn (motive_1:=λv d _ _=>∀l us n xs,vR v=some l->wL d=some xs->h.get? l=some {cls:=.type "list",data:=.seq us n}->∃as,ReadsAllW [] cl h us.toList xs as) r
  (λ_ _ _ _ _ e=>nn e) (λ_ _ _ _ _ _ e=>nn e) (λ_ _ _ _ _ _ _ e=>nn e) (λ_ _ _ _ _ _ _ e=>nn e)
  (λg _ d r _ _ _ _ e1 e2 hl=>by
    obtain rfl:=ag e1;obtain rfl:=ag e2;obtain rfl:=ag (g.symm.trans hl);obtain rfl:_=_:=(Data.seq.inj d).1;exact⟨_,r⟩)
  (λ_ _ _ _ _ _ _ _ _ e=>nn e) (λ_ _ _ _ _ _ _ _ _ _ e=>nn e) (λ_ _ _ _ _ _ _ e=>nn e) (λ_ _ _ _ _ _ _ e=>nn e) (λ_ _ _ _ _ _ _ _ e=>nn e) (λ_ _ _ _ _ _ _ _ _ _ _ e=>nn e) (λ_ _ _ _ _ _ _ _ _ _ _ e=>nn e)
  (λ_ _ _ _ _ _ _ _ _ _ _ _ _ _ _ _ _ _ _ e=>nn e)
theorem Hc{cl:bA->Option aO}{ns:List Int}{as:List aO}{n:Nat}(r:ReadsAllW [] cl h [.ref l] [.list (ns.map qw)] as)(hl:h.get? l=some {cls:=.type "list",data:=.seq us.toArray n})
 (C:Cx)(G:Gh):bB C G us (ns.map FV.int):=
 xE (ReadsAllW.casesOn (motive_2:=λvs xs _ _=>∀v d,vs.head?=some v->xs.head?=some d->∃as,ReadsW [] cl h v d as) r (λ_ _ e=>nn e) (λr _ _ _ e1 e2=>ag e1▸ag e2▸⟨_,r⟩) _ _ rfl rfl) λ_ r=>
 xE (C8 r _ _ _ _ rfl rfl hl) λ_ r=>C9 r ns (by exact eW bH rfl)
theorem post_of(args:List WData):lA.claim.post args (.bool true) args=true:=
 have F:∀b:Bool,b=true->(Gv [] (.bool true) .bool&&(WTm.lit (.bool b)).holds [] {args:=[]})=true:=λb e=>by subst e;rfl
 F (same (.bool true) (.bool true)) (by decide+kernel)
theorem HB(left:LeftO pw qv loose (λ_=>true) (λs=>qF s.heap.get?) (λ_=>true) N)(Zm:lA.claim.pre [.list []]=true->cD.row.wellSaid=true)
 (ok:(chainsOk qv&&opensWell pw&&(frees lA&&lA.within.isEmpty))=true)(hb:pw.bare){d:DefRec}{kwd:List (bA×af)}(aan:defOf qv (aa "law")=some (d,kwd))(hp:pw.theDef (aa "law")=some (d.params,d.body,d.scope))
 (hk:kwWritten? d.params.kwonlyargs d.params.kw_defaults=some kwd)(P:xk):cD.row.Holds:=by
 have O9:lA.claim.pre [.list []]=true:=rfl
 have hw:lA.promised:=⟨[.list []],O9,rfl⟩;refine⟨Zm O9,hw,open_anyG (r:=lA) (run:=λf vs=>XR f vs) (tree:=λvs=>do match<-nsGet mainNs lA.name with
  |some f=>do ret (<-XR f vs)
  |none=>unsupported "claim.caller:no-such-global") (XP:=λ_ _=>True) (YP:=xm) left (λw s e=>Hx e) (λw h h' x k=>x.keeps k) (λ_ _=>trivial) (λ_ _ _ x _=>x) (λs _=>recFacts_nil rfl) rfl ok hb hw
  (λvs w s mg f Q E hg hf h=>ai (wpAny_nsGet hg (by exact eW hf<|ai (dQ h (λ_ _ x=>ar x) λ_ _ x=>x))))
  (λw s hg G n hn=>?_) λw AH aM mg mb G Y args vs as O9 adT L low=>?_⟩
 . obtain rfl:n=aa "law":=aI.mp hn
   exact pinned_of_view hg G aan hp hk
 . (refine dT Y ?_;clear Y;intro B bs kb tb)
   (refine bS (pre_of O9) λns q8=>?_;subst q8;intro hn)
   (refine gg (HC L) λl us q9=>?_;subst q9;intro hl)
   have Tj:mg (aa "law")=some (.ref 747):=by
    exact eL (OJ bs)<|congrFun (Ft G.T.g (bs.g.keeps kb)) _
   refine⟨.ref 747,Tj,?_⟩
   (refine gg P ?_;clear P;intro M k hk hP)
   (refine xE (hP ns hn) λwl hc=>?_)
   refine dQ (LS hk bs kb tb hl (λG=>Hc L.reads hl _ G) hc) (λv s' x=>?_) λ_ _ q=>q.elim
   (refine fA x ?_;clear x;intro NU;subst NU;intro a b c)
   exact⟨.inl ⟨.bool true,.bool true,[],rfl,λ_=>rfl,.bool true,post_of _,λ_=>⟨eC,λa h=>nomatch h⟩⟩,a,b,.of_eq (c.trans L.gens)⟩
theorem PO(w:fP):(ek w.params).isNs bU=true:=by kernel_rfl
theorem N7:opening pw=plainProg pw.main.scope.names:=by kernel_rfl
theorem Li(s:aN):fenceModules? pw s=some s:=by kernel_rfl
theorem OA:LeftO pw qv loose (λ_=>true) (λs=>qF s.heap.get?) (λ_=>true) 9372:=
 OC (H:=ek) (M:=9372) (boot_open N7 (by kernel_rfl) Li) PO Sg (by kernel_rfl)
theorem Oy:(chainsOk qv&&opensWell pw&&(frees lA&&lA.within.isEmpty))=true:=by kernel_rfl
theorem B5:(defOf qv (aa "law")).isSome=true:=by kernel_rfl
def oX:DefRec×List (bA×af):=(defOf qv (aa "law")).get B5
theorem TM:defOf qv (aa "law")=some (oX.1,oX.2):=(Option.some_get B5).symm
theorem Px:pw.theDef (aa "law")=some (oX.1.params,oX.1.body,oX.1.scope):=by kernel_rfl
theorem TL:kwWritten? oX.1.params.kwonlyargs oX.1.params.kw_defaults=some oX.2:=by kernel_rfl
theorem PX:pw.bare:=⟨rfl,rfl,rfl,rfl,rfl,by kernel_rfl⟩
theorem JB:cD.row.wellSaid=true:=row_said Bv
theorem K3(P:xk):cD.Holds:=⟨Bv,HB OA (λ_=>JB) Oy PX TM Px TL P⟩
end
section
variable{C:my}{N k c a b i t s j v jW:Nat}{fr cJ cs:List Slot}{wl w1 w2:WL}{xs ys ds vs aX:List FV}{d cy parts:FV}{iG:List (List FV)}{fs:List (Nat×OF)}{x y:EV}{is l:List Nat}{f L:Nat->Nat}{es:IL}{e it:IE}{z:Option (Fl×St)}{g:Nat->FV}{F nx A:Nat->List Nat}{y0:Slot}{P:Prop}{fq off:Int}{S S1:Nat->Bool}
section
variable {w3:WL}
theorem Qz{α:Type}{xs:List α}{n:Nat}:Fs xs n=xs[n]?:=if_pos (bJ n)
theorem FI{n:Nat}(h:n<1000000):BK n=true:=decide_eq_true (by lia)
theorem Di{n:Nat}(h:xs[n]?=some d)(hn:n<1000000):pick xs n=some (.fv d):=(if_pos (FI hn)).trans (ms (Qz.trans h))
theorem Wv{k:Int}:jq (.fv (.tup xs)) (.fv (.int k)) wl=pick xs k:=rfl
theorem Ww{k:Int}:jq (.fv (.list xs)) (.fv (.int k)) wl=pick xs k:=rfl
theorem KW{k:Int}:jq (.bor (.ob (.list xs))) (.fv (.int k)) wl=pick xs k:=rfl
theorem OX{k:Int}:jq (.bor (.gu iG)) (.fv (.int k)) wl=if BK k then(Fs iG k).map λxs=>EV.bor (.ob (.list xs))else ab:=rfl
theorem Ta{n:Nat}(h:iG[n]?=some xs)(hn:n<1000000):jq (.bor (.gu iG)) (.fv (.int n)) wl=some (.bor (.ob (.list xs))):=OX.trans ((if_pos (FI hn)).trans (ms (Qz.trans h)))
theorem Wb{own:Bool}(h:xs.length<=2^20):ju .len own [.fv (.tup xs)]=some (.fv (.int xs.length)):=if_pos (decide_eq_true h)
theorem Wc{own:Bool}(h:xs.length<=2^20):ju .len own [.fv (.list xs)]=some (.fv (.int xs.length)):=if_pos (decide_eq_true h)
theorem U8{k:Int}(hk:0<=k/\k<2^62)(h:xs.length<=2^20):AW (.fv (.list xs)) (.fv .none) (.fv (.int k))=some (.fv (.list (xs.take k.toNat))):=
 bs (a:=ab) rfl (bs (a:=some k) (if_pos hk) (if_pos (decide_eq_true h)))
theorem TX:mr (.bor (.inst c fs)) k=(fs.lookup k).map OF.ev:=rfl
theorem Xt{is js:List Int}(hi:pP x=none)(hs:L8 x=none)(hx:x.eh=some xs)(hy:y.eh=some ys)(h1:eZ xs=some is)(h2:eZ ys=some js):UK x y=some (decide (is=js)):=by
 unfold UK;refine eW hi<|eW hs ?_;exact bs hx (bs hy (bs h1 (bs h2 rfl)))
theorem EY{f:IE}{xs:List EV}{r:FV}(h1:ev C f fr wl=some (.fv d,w1))(h2:ox C es fr w1=some (xs,w2))(h3:C d xs w2=some (r,w3)):ev C (.call f es) fr wl=some (.fv r,w3):=FY.trans (bs h1 (bs h2 (ms h3)))
theorem aG{a:FV}{xs:List EV}{r:FV}(h2:ox C es fr wl=some (xs,w2))(h3:C a xs w2=some (r,w3)):ev C (.call (.bc a) es) fr wl=some (.fv r,w3):=EY rfl h2 h3
theorem fm{o:IE}{xs:List EV}{r:FV}(h1:ev C o fr wl=some (x,w1))(h2:ox C es fr w1=some (xs,w2))(hc:Gf x=some c)(hm:oV c k=some a)(h3:C (.obj a) (x::xs) w2=some (r,w3)):
 ev C (.ef (.user k) o es) fr wl=some (.fv r,w3):=FX.trans (bs h1 (bs h2 (bs hc (bs hm (ms h3)))))
theorem aE:ox C .nil fr wl=some ([],wl):=rfl
theorem ah{r:IL}{xs:List EV}(h1:ev C e fr wl=some (x,w1))(h2:ox C r fr w1=some (xs,w2)):ox C (.cons e r) fr wl=some (x::xs,w2):=ku.trans (bs h1 (ms h2))
theorem dh{op:Operator}{a b:IE}{r:EV}(h1:ev C a fr wl=some (x,w1))(h2:ev C b fr w1=some (y,w2))(h3:i7 op x y=some r):ev C (.bin op a b) fr wl=some (r,w2):=Lu.trans (bs h1 (bs h2 (ms h3)))
theorem y7{op:CmpOp}{a b:IE}{r:Bool}(h1:ev C a fr wl=some (x,w1))(h2:ev C b fr w1=some (y,w2))(h3:mR op x y=some r):ev C (.cmp op a b) fr wl=some (.fv (.bool r),w2):=z4.trans (bs h1 (bs h2 (ms h3)))
theorem Ye{op:UnaryOp}{a:IE}{r:EV}(h1:ev C a fr wl=some (x,w1))(h3:Nk op x=some r):ev C (.un op a) fr wl=some (r,w1):=Q1.trans (bs h1 (ms h3))
theorem de{a i:IE}{r:EV}(h1:ev C a fr wl=some (x,w1))(h2:ev C i fr w1=some (y,w2))(h3:jq x y w2=some r):ev C (.idx a i) fr wl=some (r,w2):=Lp.trans (bs h1 (bs h2 (ms h3)))
theorem Am{a:IE}{r:EV}(h1:ev C a fr wl=some (x,w1))(h3:mr x k=some r):ev C (.attr a k) fr wl=some (r,w1):=FZ.trans (bs h1 (ms h3))
theorem MG{a l h:IE}{z r:EV}(h1:ev C a fr wl=some (x,w1))(h2:ev C l fr w1=some (y,w2))(h3:ev C h fr w2=some (z,w3))(h4:AW x y z=some r):ev C (.xy a l h) fr wl=some (r,w3):=Lk.trans (bs h1 (bs h2 (bs h3 (ms h4))))
theorem iF{xs:List EV}(h1:ox C es fr wl=some (xs,w1))(h2:xS xs=some ds):ev C (.tup es) fr wl=some (.fv (.tup ds),w1):=Lj.trans (bs h1 (ms h2))
theorem y6{own:Bool}{xs:List EV}(h1:ox C es fr wl=some (xs,w1))(h2:xS xs=some ds):ev C (.lst own es) fr wl=some (if own then .own (.ob (.list ds))else .fv (.list ds),w1):=Ln.trans (bs h1 (ms h2))
theorem cK{b:BI}{own:Bool}{xs:List EV}{r:EV}(h1:ox C es fr wl=some (xs,w1))(h2:ju b own xs=some r):ev C (.bj b own es) fr wl=some (r,w1):=Lv.trans (bs h1 (ms h2))
theorem qW{t a b:IE}{r:EV}(h1:eK C t fr wl=some (true,w1))(h2:ev C a fr w1=some (r,w2)):ev C (.ite t a b) fr wl=some (r,w2):=D_.trans (bs h1 h2)
theorem pA{t a b:IE}{r:EV}(h1:eK C t fr wl=some (false,w1))(h2:ev C b fr w1=some (r,w2)):ev C (.ite t a b) fr wl=some (r,w2):=D_.trans (bs h1 h2)
theorem Cy{t a b:IE}{c:Bool}{r:EV}(h1:eK C t fr wl=some (c,w1))(h2:c=true->ev C a fr w1=some (r,w2))(h3:c=false->ev C b fr w1=some (r,w2)):ev C (.ite t a b) fr wl=some (r,w2):=by
 induction c using ax with
 |true=>exact qW h1 (h2 rfl)
 |false=>exact pA h1 (h3 rfl)
theorem P6{b:Bool}(hf:lP C e true fr wl=kq true (lP C e false fr wl))(h:ev C e fr wl=some (x,w1))(ht:iR x=some b):eK C e fr wl=some (b,w1):=(dg hf).trans (bs h (ms ht))
theorem jG{b:Bool}(hf:lP C e true fr wl=kq true (lP C e false fr wl))(h:ev C e fr wl=some (.fv (.bool b),w1)):eK C e fr wl=some (b,w1):=P6 hf h rfl
theorem fJ{op:CmpOp}{a b:IE}{r:Bool}(h1:ev C a fr wl=some (x,w1))(h2:ev C b fr w1=some (y,w2))(h3:mR op x y=some r):eK C (.cmp op a b) fr wl=some (r,w2):=jG rfl (y7 h1 h2 h3)
theorem Gq{a:IE}{b:Bool}(h:eK C a fr wl=some (b,w1)):eK C (.un .Not a) fr wl=some (!b,w1):=F7.trans (ms h)
theorem jH{b:Bool}(h:fI C es fr wl=some (b,w1)):eK C (.ic es) fr wl=some (b,w1):=BX.trans h
theorem Ah{b:Bool}(h:qt C es fr wl=some (b,w1)):eK C (.uJ es) fr wl=some (b,w1):=F6.trans h
theorem pC:fI C .nil fr wl=some (true,wl):=rfl
theorem dR{r:IL}{b:Bool}(h:eK C e fr wl=some (true,w1))(h2:fI C r fr w1=some (b,w2)):fI C (.cons e r) fr wl=some (b,w2):=nM.trans (bs h h2)
theorem d6{r:IL}(h:eK C e fr wl=some (false,w1)):fI C (.cons e r) fr wl=some (false,w1):=nM.trans (bs h rfl)
theorem Ur{r:IL}{b c:Bool}(h:eK C e fr wl=some (b,wl))(h2:b=true->fI C r fr wl=some (c,wl)):fI C (.cons e r) fr wl=some (b&&c,wl):=by
 induction b using ax with
 |true=>exact dR h (h2 rfl)
 |false=>exact d6 h
theorem r_:qt C .nil fr wl=some (false,wl):=rfl
theorem f5{r:IL}{b c:Bool}(h:eK C e fr wl=some (b,wl))(h2:b=false->qt C r fr wl=some (c,wl)):qt C (.cons e r) fr wl=some (b||c,wl):=by
 show(eK C e fr wl).bind _=_;refine eW h<|eW (bK ..) ?_;induction b using ax with
 |true=>rfl
 |false=>exact h2 rfl
theorem aY:hU C N .nil (fr,wl)=some (.next,fr,wl):=rfl
theorem ao{s:IS}{r:IB}(h:ex C N s (fr,wl)=some (.next,cJ,w1))(h2:hU C N r (cJ,w1)=z):hU C N (.cons s r) (fr,wl)=z:=bs h h2
theorem br{s:IS}{r:IB}(h:ex C N s (fr,wl)=some (.ret d,cJ,w1)):hU C N (.cons s r) (fr,wl)=some (.ret d,cJ,w1):=bs h rfl
theorem Uq{s:IS}{r:IB}(h:ex C N s (fr,wl)=some (.cont,cJ,w1)):hU C N (.cons s r) (fr,wl)=some (.cont,cJ,w1):=bs h rfl
theorem aZ(h:ev C e fr wl=some (.fv d,w1))(h2:setSlot fr i (.val d)=some cJ):ex C N (.assign i e) (fr,wl)=some (.next,cJ,w1):=bs h (ms h2)
theorem gD{t:OT}(h:ev C e fr wl=some (.own t,w1))(h2:setSlot fr i (.own t)=some cJ):ex C N (.assign i e) (fr,wl)=some (.next,cJ,w1):=bs h (ms h2)
theorem xb(h:ev C e fr wl=some (.fv (.tup ds),w1))(h2:ez fr is ds=some cJ):ex C N (.unpack is e) (fr,wl)=some (.next,cJ,w1):=bs h (ms h2)
theorem gm{xs:List EV}(h:ox C es fr wl=some (xs,w1))(h2:jP fr is xs=some cJ):ex C N (.jk is es) (fr,wl)=some (.next,cJ,w1):=bs h (ms h2)
theorem Gs(h:ev C e fr wl=some (.fv d,w1)):ex C N (.run e) (fr,wl)=some (.next,fr,w1):=bs h rfl
theorem cz{t:IE}{a b:IB}(h:eK C t fr wl=some (true,w1))(h2:hU C N a (fr,w1)=z):ex C N (.ite t a b) (fr,wl)=z:=bs h h2
theorem bl{t:IE}{a b:IB}(h:eK C t fr wl=some (false,w1))(h2:hU C N b (fr,w1)=z):ex C N (.ite t a b) (fr,wl)=z:=bs h h2
theorem Gu{b:IB}(h:ev C it fr wl=some (x,w1))(hi:items x=some vs)
 (h2:forL (λa v=>(c6 a.1 is v).bind λfr=>hU C N b (fr,a.2)) vs (fr,w1)=z):ex C N (.for is it b) (fr,wl)=z:=bs h (bs hi h2)
theorem Iq{b:IB}(h:ev C it fr wl=some (.fv (.list vs),w1))(hs:cg vs.length=true)
 (h2:Lh (λa n v=>(ez a.1 [i,j] [.int n,v]).bind λfr=>hU C N b (fr,a.2)) vs 0 (fr,w1)=z):ex C N (.kS i j it b) (fr,wl)=z:=bs h (bs (if_pos hs) h2)
theorem bZ(h:ev C e fr wl=some (.fv d,w1)):ex C N (.ret e) (fr,wl)=some (.ret d,fr,w1):=bs h rfl
theorem Kc{o:OB}(ho:fr[j]?=some (.own (.ob o))):kD C (.v j) fr wl=some ((o,λo'=>fr.set j (.own (.ob o'))),wl):=bs (bs ho rfl) rfl
theorem i8(ho:fr[j]?=some (.own (.ob (.list xs))))(h:ev C e fr wl=some (.fv d,w1))(hs:cg xs.length=true):
 ex C N (.append (.v j) e) (fr,wl)=some (.next,fr.set j (.own (.ob (.list (xs++[d])))),w1):=bs (Kc ho) (bs h (if_pos hs))
theorem pS(ho:fr[j]?=some (.own (.ob (.list xs))))(h:ev C e fr wl=some (.fv (.list ds),w1))(hs:cg (xs.length+ds.length)=true):
 ex C N (.extend (.v j) e) (fr,wl)=some (.next,fr.set j (.own (.ob (.list (xs++ds)))),w1):=bs (Kc ho) (bs h (if_pos hs))
theorem EG{k:Int}{xs:List Int}(ho:fr[j]?=some (.own (.ob (.set xs))))(h:ev C e fr wl=some (.fv (.int k),w1))(hs:xs.length<4/\0<=k/\k<64):
 ex C N (.add (.v j) e) (fr,wl)=some (.next,fr.set j (.own (.ob (.set (jv xs k)))),w1):=bs (Kc ho) (bs h (if_pos hs))
theorem EE{i:IE}{k:Int}(h:ev C e fr wl=some (.fv d,w1))(ho:fr[j]?=some (.own (.ob (.list xs))))(h2:ev C i fr w1=some (.fv (.int k),w2))(hk:0<=k/\k.toNat<xs.length/\k<2^62):
 ex C N (.fW (.v j) i e) (fr,wl)=some (.next,fr.set j (.own (.ob (.list (xs.set k.toNat d)))),w2):=bs h (bs rfl (bs ho (bs h2 (bs rfl (if_pos hk)))))
theorem Mk{i:IE}{k:Int}{es:List (Int×FV)}(h:ev C e fr wl=some (.fv d,w1))(ho:fr[j]?=some (.own (.ob (.dict es))))(h2:ev C i fr w1=some (.fv (.int k),w2))(hk:cg es.length=true):
 ex C N (.fW (.v j) i e) (fr,wl)=some (.next,fr.set j (.own (.ob (.dict (dD es k d)))),w2):=bs h (bs rfl (bs ho (bs h2 (bs rfl (if_pos hk)))))
variable {args:List EV}
theorem cM{g:bw}(h:FT a=some g){z:Option (FV×WL)}(h2:C6 (au N k) N g [] args wl=z):au N (k+1) (.obj a) args wl=z:=by
 show(FT a).elim _ _=_;refine eW h ?_;exact h2
theorem RD{g:bw}(h:LT[j]?=some g){z:Option (FV×WL)}(h2:C6 (au N k) N g aX args wl=z):au N (k+1) (.mB j aX) args wl=z:=by
 show(LT[j]?).bind _=_;refine eW h ?_;exact h2
theorem bt{f:bw}{b:IB}(hb:f.body=.stmts b)(h0:lD f aX args=some fr)(h:hU C N b (fr,wl)=some (.ret d,cJ,w1)):C6 C N f aX args wl=some (d,w1):=bs h0 (by refine eW hb ?_;exact bs h rfl)
theorem Ai{f:bw}{b:IB}(hb:f.body=.stmts b)(h0:lD f aX args=some fr)(h:hU C N b (fr,wl)=some (.next,cJ,w1)):C6 C N f aX args wl=some (.none,w1):=bs h0 (by refine eW hb ?_;exact bs h rfl)
theorem yw{σ:Type}{F:σ->FV->Option σ}(I:Nat->σ->Prop)(vs:List FV):∀(i:Nat)(a:σ),I i a->(∀j v a,vs[j]?=some v->I (i+j) a->∃a',F a v=some a'/\I (i+j+1) a')->∃a',kh F vs a=some a'/\I (i+vs.length) a':=by
 induction vs generalizing I with
 |nil=>exactλi a h _=>⟨a,rfl,h⟩
 |cons v vs ih=>exactλi a h st=>bS (st 0 v a rfl h) λa1 e1 h1=>bS (ih (λn=>I (n+1)) i a1 h1 λj w b hj hb=>st (j+1) w b hj hb) λa2 e2 h2=>⟨a2,bs e1 e2,h2⟩
theorem Ce{α:Type}{f:Fl}{x z:α}{g:FV->α}(hf:∀d,f≠.ret d)(e:x=z):f.brk.elim x g=z:=f.casesOn (motive:=λf=>(∀d,f≠.ret d)->f.brk.elim x g=z) (λ_=>e) (λ_=>e) (λd h=>absurd rfl (h d)) hf
theorem FU{σ:Type}{F:σ->FV->Option (Fl×σ)}(I:Nat->σ->Prop)(vs:List FV):∀(i:Nat)(a:σ),I i a->(∀j v a,vs[j]?=some v->I (i+j) a->∃f a',F a v=some (f,a')/\(∀d,f≠.ret d)/\I (i+j+1) a')->∃a',forL F vs a=some (.next,a')/\I (i+vs.length) a':=by
 induction vs generalizing I with
 |nil=>exactλi a h _=>⟨a,rfl,h⟩
 |cons v vs ih=>exactλi a h st=>cO (st 0 v a rfl h) λf a1 e1 hf h1=>bS (ih (λn=>I (n+1)) i a1 h1 λj w b hj hb=>st (j+1) w b hj hb) λa2 e2 h2=>⟨a2,bs e1 (Ce hf e2),h2⟩
theorem Lf{σ:Type}{F:σ->Int->FV->Option (Fl×σ)}(I:Nat->σ->Prop)(vs:List FV):∀(i:Nat)(a:σ),I i a->(∀j v a,vs[j]?=some v->I (i+j) a->∃f a',F a ((i+j:Nat):Int) v=some (f,a')/\(∀d,f≠.ret d)/\I (i+j+1) a')->
 ∃a',Lh F vs (i:Int) a=some (.next,a')/\I (i+vs.length) a':=by
 induction vs with
 |nil=>exactλi a h _=>⟨a,rfl,h⟩
 |cons v vs ih=>exactλi a h st=>cO (st 0 v a rfl h) λf a1 e1 hf h1=>bS (ih (i+1) a1 h1 λj=>(dc i 1 j).symm▸st (j+1)) λa2 e2 h2=>⟨a2,bs e1 (Ce hf e2),(dc i 1 vs.length)▸h2⟩
def cF(C:my)(ifs:IL)(g:IG)(a:List Slot×List FV×WL)(v:FV):Option (List Slot×List FV×WL):=(c6 a.1 [0] v).bind λf_=>(fI C ifs f_ a.2.2).bind λt=>if t.1 then HW C g f_ a.2.1 t.2 else some (f_,a.2.1,t.2)
theorem PD{α:Type}{f g:α->FV}{p:α->Bool}{ifs:IL}(l:List α):(∀a∈l,fI C ifs (.val (f a)::cs) wl=some (p a,wl))->(∀a∈l,p a=true->ev C e (.val (f a)::cs) wl=some (.fv (g a),wl))->∀y acc,(∀v,c6 (y::cs) [0] v=some (.val v::cs))->
 ∃sQ,kh (cF C ifs (.emit e)) (l.map f) (y::cs,acc,wl)=some (sQ,acc++(l.filter p).map g,wl):=by
 induction l with
 |nil=>exactλ_ _ y acc _=>⟨_,(congrArg (λz=>some (y::cs,z,wl)) (cC acc)).symm⟩
 |cons a l ih=>
  intro h4 h5 y acc hb
  have t:=h4 a a7
  have ih:=ih (λb hb=>h4 b (aW a hb)) (λb hb=>h5 b (aW a hb)) (.val (f a));by_cases q:p a=true
  . rw[q]at t
    refine eW (List.filter_cons_of_pos q) ?_;exact xE (ih (acc++[g a]) λ_=>rfl) λsQ e2=>⟨sQ,(bs (bs (hb (f a)) (bs t (bs (h5 a a7 q) rfl))) e2).trans (congrArg (λz=>some (sQ,z,wl)) (gZ acc [g a] _))⟩
  . rw[dX.mpr q]at t
    refine eW (List.filter_cons_of_neg q) ?_;exact xE (ih acc λ_=>rfl) λsQ e2=>⟨sQ,bs (bs (hb (f a)) (bs t rfl)) e2⟩
theorem gA{α:Type}(f:α->FV)(l:List α){own:Bool}{aX:List Nat}{ifs:IL}(h1:ev C it fr wl=some (x,wl))(h2:items x=some (l.map f))(h3:fX fr aX=some cs)(p:α->Bool)(g:α->FV)
 (h4:∀a∈l,fI C ifs (.val (f a)::cs) wl=some (p a,wl))(h5:∀a∈l,p a=true->ev C e (.val (f a)::cs) wl=some (.fv (g a),wl))(hs:l.length<=2^20):
 ev C (.comp own 1 aX it [0] ifs (.emit e)) fr wl=some (if own then .own (.ob (.list ((l.filter p).map g)))else .fv (.list ((l.filter p).map g)),wl):=
 xE (PD l h4 h5 .unset [] λ_=>rfl) λsQ e=>z3.trans (bs h1 (bs h2 (bs h3 (bs e (if_pos (decide_eq_true (ak (bh (aj _)) (ak (dF p l) hs))))))))
theorem comp_map{α:Type}(f:α->FV)(l:List α){own:Bool}{aX:List Nat}(h1:ev C it fr wl=some (x,wl))(h2:items x=some (l.map f))(h3:fX fr aX=some cs)(g:α->FV)
 (h5:∀a∈l,ev C e (.val (f a)::cs) wl=some (.fv (g a),wl))(hs:l.length<=2^20):ev C (.comp own 1 aX it [0] .nil (.emit e)) fr wl=some (if own then .own (.ob (.list (l.map g)))else .fv (.list (l.map g)),wl):=by
 have:=gA (own:=own) (ifs:=.nil) f l h1 h2 h3 (λ_=>true) g (λ_ _=>rfl) (λa ha _=>h5 a ha) hs
 rwa[IJ.mpr λ_ _=>rfl]at this
end
theorem PN(a b:Nat):MW a b=((a|||b:Nat):Int):=by
 refine eW (bitOr_and ..)<|eW (bitAnd_pp (bJ a) (bJ b))<|eW (cI ..)<|eW (cI ..) ?_
 have:=EN a b;lia
theorem wV(a b:Nat):dq a b=((a&&&b:Nat):Int):=by
 exact eW (bitAnd_pp (bJ a) (bJ b))<|eW (cI ..)<|eW (cI ..) rfl
noncomputable def n4(a b:Nat):Nat:=a-(a&&&b)
theorem Ih(a b:Nat):dq a (xj b)=(n4 a b:Int):=by
 exact eW (bitAnd_not ..)<|eW (wV ..)<|(Cw (Rt:a&&&b<=a)).symm
theorem yy(a b t:Nat):(n4 a b).testBit t=(a.testBit t&& !b.testBit t):=by
 have e:=EN (a^^^(a&&&b)) (a&&&b)
 have h1:(a^^^(a&&&b))|||(a&&&b)=a:=cx λi=>by
  refine eW (ig ..)<|eW (ya ..)<|eW (gP ..) ?_;induction a.testBit i using ax<;>induction b.testBit i using ax<;>rfl
 have h2:(a^^^(a&&&b))&&&(a&&&b)=0:=cx λi=>by
  refine eW (gP ..)<|eW (ya ..)<|eW (gP ..)<|eW (iD ..) ?_;induction a.testBit i using ax<;>induction b.testBit i using ax<;>rfl
 rw[h1,h2]at e
 have h3:n4 a b=a^^^(a&&&b):=by unfold n4;lia
 refine eW h3<|eW (ya ..)<|eW (gP ..) ?_;induction a.testBit t using ax<;>induction b.testBit t using ax<;>rfl
noncomputable def bG:List Nat->Nat
 |[]=>0
 |x::r=>2^x|||bG r
theorem gy:∀(l:List Nat)(t:Nat),(bG l).testBit t=decide (t∈l)
 |[],t=>by show(0:Nat).testBit t=_;refine eW (iD ..) ?_;simp
 |x::r,t=>by
  show(2^x|||bG r).testBit t=_;refine eW (ig ..)<|eW IV<|eW (gy r t) ?_;by_cases h:x=t
  . subst h;simp
  . have h':¬t=x:=λc=>h c.symm
    simp[h,h']
theorem vM{m:Nat}(h:∀t,m.testBit t=true↔t∈l):m=bG l:=cx λt=>by
 refine eW (gy ..) ?_;by_cases q:t∈l
 . exact eW ((h t).mpr q)<|eW (decide_eq_true q) rfl
 . exact eW (decide_eq_false q)<|dX.mpr λc=>q ((h t).mp c)
theorem AI:∀(l:List Nat),l.Nodup->(l.map λt=>2^t).sum=bG l
 |[],_=>rfl
 |x::r,h=>by
  rw[cp]at h
  have e:=EN (2^x) (bG r)
  have z:2^x&&&bG r=0:=cx λi=>by
   refine eW (gP ..)<|eW IV<|eW (gy ..)<|eW (iD ..) ?_;by_cases q:x=i
   . subst q;exact eW (decide_eq_false h.1)<|eW (jL ..) rfl
   . exact eW (decide_eq_false q)<|eW (hZ ..) rfl
  rw[z]at e;rw[bT,Av,AI r h.2];exact e.symm
noncomputable abbrev nI(n:Nat):FV:=.int (n:Int)
theorem Ig(m n:Nat):dq (Al m (2^n)) 1=if m.testBit n then 1 else 0:=by
 have e:Al (m:Int) (2^n)=((m>>>n:Nat):Int):=by
  rw[Nat.shiftRight_eq_div_pow,fk _ (Ak (by decide))]
  norm_cast
 refine eW e<|eW (show(1:Int)=((1:Nat):Int)from rfl)<|eW (wV ..) ?_;unfold Nat.testBit;refine eW (Nat.and_comm ..) ?_
 have:1&&&m>>>n<2:=aQ Rt (by decide);generalize 1&&&m>>>n=y at this
 match y,this with
 |0,_=>rfl
 |1,_=>rfl
inductive Y:Slot->Prop where
 |un:Y .unset
 |va (d:FV):Y (.val d)
theorem uU{D:Type}(G:D->Slot->List Slot)(W:D->WL)(I:Nat->D->Prop)(a0:D){b:IB}(h:ev C it fr wl=some (x,W a0))(hi:items x=some vs)(h0:fr=G a0 y0)(O5:Y y0)(i0:I 0 a0)
 (hb:∀a y v,Y y->c6 (G a y) [j] v=some (G a (.val v)))
 (step:∀i v a,vs[i]?=some v->I i a->∃fl a' y,hU C N b (G a (.val v),W a)=some (fl,G a' y,W a')/\Y y/\(∀d,fl≠.ret d)/\I (i+1) a'):
 ∃a y,Y y/\I vs.length a/\ex C N (.for [j] it b) (fr,wl)=some (.next,G a y,W a):=by
 refine cps λGz kz=>?_
 (refine RH (FU (F:=λ(a:St) v=>(c6 a.1 [j] v).bind λfr=>hU C N b (fr,a.2)) (λi s=>∃a y,Y y/\I i a/\s=(G a y,W a)) vs 0 (fr,W a0) ⟨a0,y0,O5,i0,by exact eW h0 rfl⟩ (λi v s hv ⟨a,y,hy,hI,hs⟩=>by
   rw[dY]at hI⊢;refine cps λGz kz=>?_;obtain⟨fl,a',y',e,Te,hf,QU⟩:=step i v a hv hI;refine kz ?_;refine⟨fl,_,?_,hf,a',y',Te,QU,rfl⟩;refine eW hs ?_
   show(c6 (G a y) [j] v).bind _=_;exact eW (hb a y v hy)<|e)) λs e a y hy q1=>?_;refine xA q1 ?_;clear q1;intro hI hs)
 refine kz ?_;rw[dY]at hI;exact⟨a,y,hy,hI,Gu h hi (by exact eW e<|eW hs rfl)⟩
theorem Lg{D:Type}(G:D->Slot->Slot->List Slot)(W:D->WL)(I:Nat->D->Prop)(a0:D){i0:Nat}{b:IB}{z0:Slot}(h:ev C it fr wl=some (.fv (.list vs),W a0))(hs:cg vs.length=true)(h0:fr=G a0 y0 z0)(O5:Y y0)(ZU:Y z0)(h1:I 0 a0)
 (hb:∀a y z u v,Y y->Y z->ez (G a y z) [i0,j] [u,v]=some (G a (.val u) (.val v)))
 (step:∀i v a,vs[i]?=some v->I i a->∃fl a' y z,hU C N b (G a (.val (nI i)) (.val v),W a)=some (fl,G a' y z,W a')/\Y y/\Y z/\(∀d,fl≠.ret d)/\I (i+1) a'):
 ∃a y z,I vs.length a/\ex C N (.kS i0 j it b) (fr,wl)=some (.next,G a y z,W a):=by
 (refine bS (Lf (F:=λ(a:St) n v=>(ez a.1 [i0,j] [.int n,v]).bind λfr=>hU C N b (fr,a.2)) (λi s=>∃a y z,Y y/\Y z/\I i a/\s=(G a y z,W a)) vs 0 (fr,W a0) ⟨a0,y0,z0,O5,ZU,h1,by exact eW h0 rfl⟩ (λi v s hv ⟨a,y,z,hy,hz,hI,hs⟩=>by
   rw[dY]at hI⊢;refine cps λGz kz=>?_;obtain⟨fl,a',y',z',e,Te,IK,hf,QU⟩:=step i v a hv hI;refine kz ?_;refine⟨fl,_,?_,hf,a',y',z',Te,IK,QU,rfl⟩;refine eW hs ?_
   show(ez (G a y z) [i0,j] [.int i,v]).bind _=_;exact eW (hb a y z _ v hy hz)<|e)) λs e q3=>?_;refine kP q3 ?_;clear q3;intro a y z hy hz hI yD)
 rw[dY]at hI;exact⟨a,y,z,hI,Iq h hs (by exact eW (show(0:Int)=((0:Nat):Int)from rfl)<|eW e<|eW yD rfl)⟩
theorem yf{D:Type}(G:D->List Slot)(W:D->WL)(I:D->Prop)(m:D->Nat)(a0:D){t:IE}{b:IB}(h0:fr=G a0)(hw:wl=W a0)(i0:I a0)(hm:m a0<N)(T:D->Bool)
 (ht:∀a,I a->eK C t (G a) (W a)=some (T a,W a))
 (step:∀a,I a->T a=true->∃fl a',hU C N b (G a,W a)=some (fl,G a',W a')/\(∀d,fl≠.ret d)/\I a'/\m a'<m a):
 ∃a,I a/\T a=false/\ex C N (.while t b) (fr,wl)=some (.next,G a,W a):=by
 subst h0 hw
 have key:∀n a,I a->m a<n->∃a',I a'/\T a'=false/\y9 (λa=>(eK C t a.1 a.2).map λx=>(x.1,a.1,x.2)) (λa=>hU C N b a) n (G a,W a)=some (.next,G a',W a'):=by
  intro n;induction n with
  |zero=>exactλa _ h=>absurd h (dy _)
  |succ n ih=>
   intro a ha hm
   have e:=ht a ha;induction q:T a using ax with
   |false=>
    refine⟨a,ha,q,?_⟩
    show((eK C t (G a) (W a)).map _).bind _=_;exact eW e<|eW q rfl
   |true=>
    (refine iP (step a ha q) λfl a' e2 hf h2 lt=>?_)
    (refine dT (ih a' h2 (by lia)) λa3 h3 q3 e3=>?_)
    refine⟨a3,h3,q3,?_⟩
    show((eK C t (G a) (W a)).map _).bind _=_;refine eW e<|eW q ?_
    show(hU C N b (G a,W a)).bind _=_;refine eW e2<|eW (bK ..) ?_;induction fl using Fl.casesOn with
    |ret d=>exact absurd rfl (hf d)
    |next=>exact e3
    |cont=>exact e3
 exact key N a0 i0 hm
noncomputable def isR(x:Fl):Bool:=x.casesOn false false λ_=>true
theorem fw:∀d,Fl.next≠Fl.ret d:=λ_ h=>ff (congrArg isR h)
theorem Ol:∀d,Fl.cont≠Fl.ret d:=λ_ h=>ff (congrArg isR h)
theorem Ow{n:Nat}(h:n<=1000000):i7 .LShift (.fv (.int 1)) (.fv (nI n))=some (.fv (nI (2^n))):=by
 show(if 0<=(n:Int)/\(n:Int)<=1000000/\(1:Int).natAbs<2^64 then some ((1:Int)*2^(n:Int).toNat)else ab).map _=_;rw[if_pos ⟨bJ n,by lia,by decide⟩,cI,Za]
 show some (EV.fv (.int _))=some (EV.fv (.int _))
 norm_cast
theorem Ae(a b:Nat):i7 .BitOr (.fv (nI a)) (.fv (nI b))=some (.fv (nI (a|||b))):=congrArg (λz=>some (EV.fv (.int z))) (PN a b)
theorem Hu(l:List Nat)(i:Nat){n:Nat}(h:l[i]?=some n):bG (l.take i).reverse|||2^n=bG (l.take (i+1)).reverse:=by
 exact eW ua<|eW h<|eW (rf ..)<|eW List.reverse_append<|Nat.or_comm _ _
theorem sE{l':List Nat}(h:∀t,t∈l↔t∈l'):bG l=bG l':=vM λt=>by rw[gy,decide_eq_true_iff];exact h t
theorem th(h:items (.fv d)=some (l.map nI))(hl:∀n∈l,n<=1000000):au N (k+1) (.obj 578) [.fv d] wl=some (nI (bG l),wl):=by
 refine cM rfl ?_;refine cps λGz kz=>?_;obtain⟨a,y,-,hI,e⟩:=uU (C:=au N k) (N:=N) (fr:=[.val d,.val (.int 0),.unset]) (wl:=wl) (λ(m:Nat) y=>[.val d,.val (nI m),y]) (λ_=>wl) (λi m=>m=bG (l.take i).reverse) 0 (j:=2) (it:=.var 0)
  (b:=.cons (.assign 1 (.bin .BitOr (.var 1) (.bin .LShift (.lit (.int 1)) (.var 2)))) .nil) rfl h rfl .un rfl (λ_ _ _ hy=>by cases hy<;>rfl) (λi v m hv hm=>by
    rw[fK]at hv
    (refine bS (c8.mp hv) λn hn q6=>?_;subst q6)
    exact⟨.next,m|||2^n,.val (nI n),ao (aZ (dh rfl (dh rfl rfl (Ow (hl n (aF hn)))) (Ae _ _)) rfl) aY,.va _,fw,by exact eW hm<|Hu l i hn⟩)
 refine kz ?_;rw[aj,n8]at hI;rw[hI,sE (l':=l) λt=>n9]at e;exact bt rfl rfl (ao (aZ rfl rfl) (ao e (br (bZ rfl))))
theorem rE(h:a<=b)(hb:b<=100000):items (.fv (.range a b 1))=some ((ae (b-a)).map λi=>nI (a+i)):=by
 have e:b8 a b 1=((b-a:Nat):Int):=by
  delta b8;rw[if_pos (by decide),Yb];rcases jx h with q|q
  . exact eW (if_pos (dn.mpr q))<|eW (Int.sub_add_cancel ..)<|eW (Cw h) rfl
  . exact eW q<|eW (if_neg (UY _))<|eW (XY ..) rfl
 refine HF.trans ?_
 have s:nu a b 1=true:=by
  delta nu jI cg rb;refine eW e ?_;simp only[bY,gO,decide_eq_true_iff];refine⟨⟨⟨?_,.inr ?_⟩,by decide⟩,by lia⟩<;>simp<;>omega
 refine eW (if_pos s) ?_;delta oQ;refine eW e<|eW (cI ..)<|eW bH ?_;refine congrArg some (dA λi _=>?_)
 show FV.int (a+i*1)=FV.int ((a+i:Nat):Int);exact eW (Zc ..)<|eW (Int.natCast_add ..) rfl
theorem cN(hb:b<=100000):items (.fv (.range 0 b 1))=some ((ae b).map nI):=by
 have:=rE (a:=0) (b:=b) (aU b) hb;simpa using this
theorem DK:∀n∈ae 50,items (.fv (.range ((n:Int)-1) (-1) (-1)))=some ((ae n).reverse.map nI):=by
 have:(ae 50).map (λ(n:Nat)=>items (.fv (.range ((n:Int)-1) (-1) (-1))))=(ae 50).map λ(n:Nat)=>some ((ae n).reverse.map nI):=by kernel_rfl
 exactλn hn=>a9.mp this n hn
theorem JL(a b:Nat):i7 .RShift (.fv (nI a)) (.fv (nI b))=some (.fv (nI (a/2^b))):=by
 show(if 0<=(b:Int)then some (Al (a:Int) (2^(b:Int).toNat))else ab).map (λr=>EV.fv (.int r))=_;rw[if_pos (bJ b),cI,fk _ (Ak (by decide))]
 show some (EV.fv (.int _))=some (EV.fv (.int _))
 norm_cast
theorem jB{y v:Slot}(h:fr[i]?=some y)(hy:Y y):setSlot fr i v=some (fr.set i v):=by
 delta setSlot;refine eW h ?_;cases hy<;>rfl
theorem eqw{w:Nat}(h:w=v){P:Nat->Prop}(p:P v):P w:=h▸p
theorem JN{α:Type}{f:Nat->α}{n:Nat}{v:α}(h:((ae n).map f)[i]?=some v):i<n/\v=f i:=
 get_map h λa e1 e2=>by
  have e:=c9.mp e1;exact xE e λh1 h2=>⟨jy h1 aq,e2.symm.trans (congrArg f (h2.symm.trans (IX h1)))⟩
inductive Turn{D:Type}(r:Option (Fl×St))(G:D->Slot->List Slot)(W:D->WL)(J:D->Prop):Prop
 |mk (fl:Fl) (a:D) (y:Slot) (h:r=some (fl,G a y,W a)) (hy:Y y) (hf:∀d,fl≠.ret d) (hj:J a)
theorem Turn.next{D:Type}{r:Option (Fl×St)}{G:D->Slot->List Slot}{W:D->WL}{J:D->Prop}(a:D)(y:Slot)(h:r=some (.next,G a y,W a))(hy:Y y)(hj:J a):Turn r G W J:=.mk .next a y h hy fw hj
inductive yZ{D:Type}(r:Option (Fl×St))(G:D->List Slot)(W:D->WL)(J:D->Prop):Prop
 |mk (fl:Fl) (a:D) (h:r=some (fl,G a,W a)) (hf:∀d,fl≠.ret d) (hj:J a)
theorem si{D:Type}(G:D->List Slot)(W:D->WL)(I:D->Prop)(m:D->Nat)(a0:D){t:IE}{b:IB}(h0:fr=G a0)(hw:wl=W a0)(i0:I a0)(hm:m a0<N)(T:D->Bool)
 (ht:∀a,I a->eK C t (G a) (W a)=some (T a,W a))(step:∀a,I a->T a=true->yZ (hU C N b (G a,W a)) G W λa'=>I a'/\m a'<m a)(k:∀a,I a->T a=false->ex C N (.while t b) (fr,wl)=some (.next,G a,W a)->P):P:=
 dT (yf G W I m a0 h0 hw i0 hm T ht λa ha hT=>(step a ha hT).casesOn (motive:=λ_=>_) λfl a' h hf hj=>⟨fl,a',h,hf,hj⟩) k
theorem xU{D:Type}(G:D->Slot->List Slot)(W:D->WL)(I:Nat->D->Prop)(a0:D){n:Nat}{b:IB}{f:Nat->FV}(h:ev C it fr wl=some (x,W a0))(hi:items x=some ((ae n).map f))(h0:fr=G a0 y0)(O5:Y y0)(i0:I 0 a0)
 (hg:∀a y,(G a y)[j]?=some y)(hs:∀a y v,(G a y).set j v=G a v)(step:∀i a,i<n->I i a->Turn (hU C N b (G a (.val (f i)),W a)) G W (I (i+1)))
 (k:∀a y,Y y->I n a->ex C N (.for [j] it b) (fr,wl)=some (.next,G a y,W a)->P):P:=
 cO (uU G W I a0 h hi h0 O5 i0 (λa y v hy=>(jB (hg a y) hy).trans (congrArg some (hs a y (.val v)))) λi v a hv ha=>xA (JN hv) λhn e=>e▸(step i a hn ha).casesOn (motive:=λ_=>_) λfl a' y h hy hf hj=>⟨fl,a',y,h,hy,hf,hj⟩)
  λa y hy hI e=>k a y hy (eqw (P:=λn=>I n a) ((aj f).trans aq).symm hI) e
theorem tS{α D:Type}(G:D->Slot->List Slot)(W:D->WL)(I:Nat->D->Prop)(a0:D){b:IB}{l:List α}{g:α->FV}(h:ev C it fr wl=some (x,W a0))(hi:items x=some (l.map g))(h0:fr=G a0 y0)(O5:Y y0)(i0:I 0 a0)
 (hg:∀a y,(G a y)[j]?=some y)(hs:∀a y v,(G a y).set j v=G a v)(step:∀i v a,l[i]?=some v->I i a->Turn (hU C N b (G a (.val (g v)),W a)) G W (I (i+1)))
 (k:∀a y,Y y->I l.length a->ex C N (.for [j] it b) (fr,wl)=some (.next,G a y,W a)->P):P:=
 cO (uU G W I a0 h hi h0 O5 i0 (λa y v hy=>(jB (hg a y) hy).trans (congrArg some (hs a y (.val v)))) λi v a hv ha=>get_map hv λu e1 e2=>e2▸(step i u a e1 ha).casesOn (motive:=λ_=>_) λfl a' y h hy hf hj=>⟨fl,a',y,h,hy,hf,hj⟩)
  λa y hy hI e=>k a y hy (eqw (P:=λn=>I n a) (aj g).symm hI) e
@[elab_as_elim] theorem J6{α β:Type}{P:α×β->Prop}(a:α×β)(k:∀x y,P (x,y)):P a:=k a.1 a.2
@[elab_as_elim] theorem So{α β γ:Type}{P:α×β×γ->Prop}(a:α×β×γ)(k:∀x y z,P (x,y,z)):P a:=k a.1 a.2.1 a.2.2
@[elab_as_elim] theorem NY{α β γ δ:Type}{P:α×β×γ×δ->Prop}(a:α×β×γ×δ)(k:∀x y z w,P (x,y,z,w)):P a:=k a.1 a.2.1 a.2.2.1 a.2.2.2
@[elab_as_elim] theorem Uv{α β γ δ ε:Type}{P:α×β×γ×δ×ε->Prop}(a:α×β×γ×δ×ε)(k:∀x y z w v,P (x,y,z,w,v)):P a:=k a.1 a.2.1 a.2.2.1 a.2.2.2.1 a.2.2.2.2
inductive Mg{D:Type}(r:Option (Fl×St))(G:D->Slot->Slot->List Slot)(W:D->WL)(J:D->Prop):Prop
 |mk (fl:Fl) (a:D) (y z:Slot) (h:r=some (fl,G a y z,W a)) (hy:Y y) (hz:Y z) (hf:∀d,fl≠.ret d) (hj:J a)
theorem QZ{D:Type}(G:D->Slot->Slot->List Slot)(W:D->WL)(I:Nat->D->Prop)(a0:D){i0 n:Nat}{b:IB}{f:Nat->FV}{z0:Slot}(h:ev C it fr wl=some (.fv (.list ((ae n).map f)),W a0))(hn:n<=2^20)(h0:fr=G a0 y0 z0)(O5:Y y0)(ZU:Y z0)(h1:I 0 a0)
 (hg:∀a y z,(G a y z)[i0]?=some y)(hs:∀a y z v,(G a y z).set i0 v=G a v z)(hg2:∀a y z,(G a y z)[j]?=some z)(Z3:∀a y z v,(G a y z).set j v=G a y v)
 (step:∀i a,i<n->I i a->Mg (hU C N b (G a (.val (nI i)) (.val (f i)),W a)) G W (I (i+1)))(k:∀a y z,I n a->ex C N (.kS i0 j it b) (fr,wl)=some (.next,G a y z,W a)->P):P:=
 have hl:((ae n).map f).length=n:=(aj f).trans aq
 j8 (Lg G W I a0 h (decide_eq_true (ak (bh hl) hn)) h0 O5 ZU h1 (λa y z u v hy hz=>bs ((jB (hg a y z) hy).trans (congrArg some (hs a y z (.val u)))) (bs ((jB (hg2 a (.val u) z) hz).trans (congrArg some (Z3 a (.val u) z (.val v)))) rfl))
  λi v a hv ha=>xA (JN hv) λhn e=>e▸(step i a hn ha).casesOn (motive:=λ_=>_) λfl a' y z h hy hz hf hj=>⟨fl,a',y,z,h,hy,hz,hf,hj⟩) λa y z hI e=>k a y z (eqw (P:=λn=>I n a) hl.symm hI) e
theorem LA(M c s:Nat):M/2^c/2^s=M/2^(c+s):=by exact eW (Nat.div_div_eq_div_mul ..)<|eW (Y7 ..) rfl
theorem Ie{M:Nat}(hM:M<2^64)(hN:70<=N):∃c,c<=64/\M<2^c/\au N (k+1) (.obj 73) [.fv (nI M)] wl=some (nI c,wl):=by
 have room:∀c s,2^s<=M/2^c->c+s<64:=λc s h=>by
  have h1:2^s*2^c<=M:=ak (ij _ h) (Nat.div_mul_le_self M _);rw[<-Y7]at h1
  have:=(Nat.pow_lt_pow_iff_right (a:=2) (by decide)).mp (aQ h1 hM);exact ph c s▸this
 refine cps λGz kz=>?_
 (refine dT (yf (C:=au N k) (N:=N) (wl:=wl) (fr:=[.val (nI (M/2^0)),.val (nI 0),.unset]) (λ(a:Nat×Slot)=>[.val (nI (M/2^a.1)),.val (nI a.1),a.2]) (λ_=>wl) (λa=>a.1<=64/\Y a.2) (λa=>64-a.1) (0,.unset)
   (t:=.cmp .Gt (.var 0) (.lit (.int 0))) (b:=.cons (.assign 2 (.ite (.cmp .Gt (.var 0) (.lit (.int 255))) (.lit (.int 8)) (.lit (.int 1)))) (.cons (.assign 0 (.bin .RShift (.var 0) (.var 2))) (.cons (.assign 1 (.bin .Add (.var 1) (.var 2))) .nil)))
   rfl rfl ⟨by decide,.un⟩ (az (show 64-0<70 by decide) hN) (λa=>decide ((0:Int)<((M/2^a.1:Nat):Int))) (λa _=>fJ rfl rfl rfl) (λ⟨c,s⟩ ⟨hc,hs⟩ hT=>by
    have h0:=RB.mp (of_decide_eq_true hT);dsimp only at h0 hc;refine Exists.elim (?_:∃st:Nat,0<st/\c+st<=64/\ev (au N k) (.ite (.cmp .Gt (.var 0) (.lit (.int 255))) (.lit (.int 8)) (.lit (.int 1))) [.val (nI (M/2^c)),.val (nI c),s] wl=some (.fv (nI st),wl)) λst ⟨p,q,e⟩=>
     ⟨.next,(c+st,.val (nI st)),ao (aZ e (jB rfl hs)) (ao (aZ (dh rfl rfl (JL (M/2^c) st)) rfl) (ao (aZ (d:=nI (c+st)) (dh rfl rfl rfl) (by exact eW (LA ..) rfl)) aY)),fw,⟨q,.va _⟩,iX (az (eN p) q) (eN p)⟩
    by_cases h:(255:Int)<((M/2^c:Nat):Int)
    . exact⟨8,by decide,bW (room c 8 (dn.mp h)),qW (fJ rfl rfl (congrArg some (decide_eq_true h))) rfl⟩
    . exact⟨1,by decide,room c 0 h0,pA (fJ rfl rfl (congrArg some (decide_eq_false h))) rfl⟩)) λq1=>?_;obtain⟨c,s⟩:=q1;intro q2;obtain⟨hc,hs⟩:=q2;intro hT e)
 have hz:=of_decide_eq_false hT;refine kz ?_;dsimp only at hz hc
 have hz:M/2^c=0:=Nat.eq_zero_of_not_pos λh=>hz (RB.mpr h);refine⟨c,hc,(Nat.div_eq_zero_iff_lt (xv (by decide))).mp hz,cM rfl (bt rfl rfl (ao (aZ rfl ?_) (ao e (br (bZ rfl)))))⟩;exact eW (Nat.pow_zero ..)<|eW (Nat.div_one ..) rfl
theorem Ku{M:Nat}(h:M<2^c)(hc:c<=64):(ae c).filter M.testBit=(ae 64).filter M.testBit:=by
 (refine xE (CH hc) λd e=>?_)
 refine(λz:((ae d).map (c+·)).filter M.testBit=[]=>?_) (jK.mpr λx hx=>?_)
 . exact eW e<|eW y4<|eW (sg ..)<|eW z<|eW (cC ..) rfl
 obtain⟨i,-,rfl⟩:=bO.mp hx;rw[jY (az h (kV (by decide) (aP c i)))];exact ay
theorem Cg{M n:Nat}(hM:fr[1]?=some (.ro (nI M)))(hn:fr[0]?=some (.val (nI n))):eK C (.cmp .Eq (.bin .BitAnd (.bin .RShift (.var 1) (.var 0)) (.lit (.int 1))) (.lit (.int 1))) fr wl=some (M.testBit n,wl):=by
 have v1:ev C (.var 1) fr wl=some (.fv (nI M),wl):=by exact eW fi<|eW hM rfl
 have v0:ev C (.var 0) fr wl=some (.fv (nI n),wl):=by exact eW fi<|eW hn rfl
 refine fJ (dh (dh v1 v0 (JL M n)) rfl rfl) rfl ?_
 show some (dq ((M/2^n:Nat):Int) 1==1)=_
 have:=Ig M n;rw[show Al (M:Int) (2^n)=((M/2^n:Nat):Int)by rw[fk _ (Ak (by decide))];norm_cast]at this;refine eW this ?_;induction M.testBit n using ax<;>rfl
theorem Aa{M:Nat}(hM:M<2^64)(hN:70<=N):au N (k+2) (.obj 583) [.fv (nI M)] wl=some (.list (((ae 64).filter M.testBit).map nI),wl):=by
 (refine dT (Ie (N:=N) (k:=k) (wl:=wl) hM hN) λc hc hb e=>?_)
 refine cM rfl (bt rfl rfl (br (bZ ?_)));refine eL (Ku hb hc) ?_;refine gA (own:=false) nI (ae c) (cK (ah (aG (ah rfl aE) e) aE) rfl) (cN (ll hc rfl)) rfl M.testBit nI (λn _=>?_) (λn _ _=>rfl) (by refine eW aq ?_;exact ll hc rfl)
 have h:=Cg (C:=au N (k+1)) (fr:=[.val (nI n),.ro (nI M)]) (wl:=wl) rfl rfl;induction q:M.testBit n using ax with
 |true=>exact dR (q▸h) pC
 |false=>exact d6 (q▸h)
noncomputable abbrev ord(code dst src off fq:Int):FV:=.inst 140 [(5,.int code),(6,.int dst),(7,.int src),(8,.int off),(9,.int fq),(10,.int 0)]
abbrev nL(l:List Nat):FV:=.list (l.map nI)
theorem jV:∀l:List Nat,eZ (l.map nI)=some (l.map λ(n:Nat)=>(n:Int))
 |[]=>rfl
 |n::r=>by
  show(eZ (r.map nI)).map _=_;exact eW (jV r) rfl
theorem nz(n:Nat)(l:List Nat):j6 n (l.map nI)=some (decide (n∈l)):=by
 unfold j6;refine eW (jV ..) ?_;refine congrArg some ?_
 show(l.map _).any _=_;rw[List.any_map,cT,iy,decide_eq_true_iff];constructor
 . rintro ⟨m,hm,e⟩
   rw[<-Int.natCast_inj.mp (of_decide_eq_true (p:=(m:Int)=n) (by simpa using e))];exact hm
 . exactλh=>⟨n,h,by simp⟩
theorem d9(h:l.length<=1000):items (.fv (nL l))=some (l.map nI):=rF (by refine eW (aj ..) ?_;lia)
theorem lj(hx:x=.fv (nL l)\/x=.bor (.ob (.list (l.map nI)))):au N (k+1) (.obj 268) [x] wl=some (nL ((ae 16).filter λn=>decide (n∈l)),wl):=by
 have QO:∀(y z:Slot),(∃e,z.GX=some e/\∀n:Nat,F_ (nI n) e=some (decide (n∈l)))->fX [y] [0]=some [z]->ev (au N k) (.comp false 1 [0] (.bj .range false (.cons (.lit (.int 16)) .nil)) [0] (.cons (.cmp .In (.var 0) (.var 1)) .nil) (.emit (.var 0))) [y] wl=some (.fv (nL ((ae 16).filter λn=>decide (n∈l))),wl):=λy z ⟨e,hs,hc⟩ hy=>by
  refine gA (own:=false) nI (ae 16) (cs:=[z]) (cK (ah rfl aE) rfl) (cN (b:=16) (by decide)) hy (λn=>decide (n∈l)) nI (λn _=>?_) (λn _ _=>rfl) (by decide)
  have h:eK (au N k) (.cmp .In (.var 0) (.var 1)) [.val (nI n),z] wl=some (decide (n∈l),wl):=fJ rfl (show(z.GX.map λy=>(y,wl))=_ by exact eW hs rfl) (hc n);induction q:decide (n∈l)using ax with
  |true=>exact dR (q▸h) pC
  |false=>exact d6 (q▸h)
 rcases hx with rfl|rfl
 . exact cM rfl (bt rfl rfl (br (bZ (QO (.val (nL l)) (.ro (nL l)) ⟨_,rfl,λn=>nz n l⟩ rfl))))
 . exact cM rfl (bt rfl rfl (br (bZ (QO (.bor (.ob (.list (l.map nI)))) (.bor (.ob (.list (l.map nI)))) ⟨_,rfl,λn=>nz n l⟩ rfl))))
theorem pL(h:∀x∈l,x<16):bG ((ae 16).filter λn=>decide (n∈l))=bG l:=sE λt=>by
 rw[eO,aC,decide_eq_true_iff];exact⟨λc=>c.2,λc=>⟨h t c,c⟩⟩
def asked(N k:Nat)(wl:WL)(o:FV):List (Option (FV×WL)):=[193,221,200,228,214,501].map λa=>au N (k+10) (.obj a) [.fv o] wl
noncomputable def told(wl:WL)(w:Nat):List (Option (FV×WL)):=[false,w==3,w==2,w==1,w==4,w==1||w==2||w==4].map λv=>some (.bool v,wl)
noncomputable def Ux:List Int:=[97,105,113,121,129,137,145,99,107,115,123,98,106,114,122,195,219,183,15,191,175]
noncomputable def Gk:List Int:=[109,69,61,173,85,21]
theorem E5(a b off fq:Int):∀c∈Ux,asked N k wl (ord c a b off fq)=told wl 0:=by
 have h:Ux.map (λc=>asked N k wl (ord c a b off fq))=Ux.map λ_=>told wl 0:=by kernel_rfl
 exactλc hc=>a9.mp h c hc
theorem E6(a b off fq:Int):∀c∈Gk,asked N k wl (ord c a b off fq)=told wl 1:=by
 have h:Gk.map (λc=>asked N k wl (ord c a b off fq))=Gk.map λ_=>told wl 1:=by kernel_rfl
 exactλc hc=>a9.mp h c hc
theorem RP(a b off fq:Int):asked N k wl (ord 5 a b off fq)=told wl 2:=by kernel_rfl
theorem RO(a b off fq:Int):asked N k wl (ord 6 a b off fq)=told wl 2:=by kernel_rfl
theorem GI(a b off fq:Int):asked N k wl (ord 149 a b off fq)=told wl 3:=by kernel_rfl
theorem GJ(off fq:Int):asked N k wl (ord 133 0 0 off fq)=told wl 0:=by kernel_rfl
theorem CV(off fq:Int):asked N k wl (ord 133 0 1 off fq)=told wl 4:=by kernel_rfl
def Uses(N:Nat)(o:FV)(r w:List Nat):Prop:=∀k wl,au N (k+5) (.obj 296) [.fv o] wl=some (.tup [nL r,nL w],wl)
theorem JS{o:FV}{r w:List Nat}(h1:∀k wl,[207,214,221].map (λa=>au N (k+5) (.obj a) [.fv o] wl)=[some (.bool false,wl),some (.bool false,wl),some (.bool false,wl)])(hu:Uses N o r w)(hr:r.length<=16)(hw:w.length<=16)(hr':∀x∈r,x<16)(UA:∀x∈w,x<16):
 au N (k+10) (.obj 597) [.fv o] wl=some (.tup [nI (bG r),nI (bG w)],wl):=by
 have a:=h1 (k+4) wl
 have a1:=(aL a).1
 have a2:=(aL (aL a).2).1
 have a3:=(aL (aL (aL a).2).2).1
 have m:∀{l:List Nat}(_:l.length<=16)(_:∀x∈l,x<16),au N (k+9) (.obj 578) [.fv (nL l)] wl=some (nI (bG l),wl):=λh h'=>th (d9 (by lia)) λn hn=>by have:=h' n hn;lia
 exact cM rfl (bt rfl rfl (ao (bl (Ah (f5 (jG rfl (aG (ah rfl aE) a1)) λ_=>f5 (jG rfl (aG (ah rfl aE) a2)) λ_=>r_)) aY) (ao (bl (jG rfl (aG (ah rfl aE) a3)) aY)
  (ao (xb (aG (ah rfl aE) (hu (k+4) wl)) rfl) (br (bZ (iF (ah (aG (ah rfl aE) (m hr hr')) (ah (aG (ah rfl aE) (m hw UA)) aE)) rfl)))))))
theorem OD{o:FV}{r w:List Nat}(h1:∀k wl,[207,214,221,235,242,249].map (λa=>au N (k+5) (.obj a) [.fv o] wl)=bD 6 (some (.bool false,wl)))(hu:Uses N o r w):
 au N (k+10) (.obj 637) [.fv o] wl=some (.bool (decide (10∈r)),wl):=by
 have a:=h1 (k+4) wl
 have a1:=(aL a).1
 have a2:=(aL (aL a).2).1
 have a3:=(aL (aL (aL a).2).2).1
 have b:=(aL (aL (aL a).2).2).2
 have b1:=(aL b).1
 have b2:=(aL (aL b).2).1
 have b3:=(aL (aL (aL b).2).2).1;exact cM rfl (bt rfl rfl (ao (bl (Ah (f5 (jG rfl (aG (ah rfl aE) a1)) λ_=>f5 (jG rfl (aG (ah rfl aE) a2)) λ_=>f5 (jG rfl (aG (ah rfl aE) a3)) λ_=>r_)) aY)
  (ao (bl (jG rfl (aG (ah rfl aE) b1)) aY) (ao (bl (Ah (f5 (jG rfl (aG (ah rfl aE) b2)) λ_=>f5 (jG rfl (aG (ah rfl aE) b3)) λ_=>r_)) aY)
    (br (bZ (y7 rfl (de (aG (ah rfl aE) (hu (k+4) wl)) rfl rfl) (nz 10 r))))))))
theorem mU{a b:IE}{s t:bA}{r:Bool}(h:(s==t)=r)(h1:ev C a fr wl=some (.fv (.str s),wl))(h2:ev C b fr wl=some (.fv (.str t),wl)):eK C (.cmp .Eq a b) fr wl=some (r,wl):=fJ h1 h2 (congrArg some h)
theorem Ji{c:Int}{Uy reg:Bool}{nm:bA}(h1:∀k wl,au N (k+1) (.obj 158) [.fv (ord c a b 0 fq)] wl=some (.bool true,wl))(h2:∀k wl,au N (k+2) (.obj 172) [.fv (ord c a b 0 fq)] wl=some (.str nm,wl))
 (h3:∀k wl,au N (k+1) (.obj 179) [.fv (ord c a b 0 fq)] wl=some (.bool reg,wl))(hn:(nm==aa "neg")=false)(he:(nm==aa "end")=false)(hm:(nm==aa "mov")=Uy):
 Uses N (ord c a b 0 fq) ((ae 16).filter λn=>decide (n∈(if Uy then[]else[a])++if reg then[b]else[])) [a]:=λk wl=>by
 refine cM rfl (bt rfl rfl (br (cz (jG rfl (aG (ah rfl aE) (h1 (k+3) wl))) (br (bZ (aG (ah rfl aE) (cM (k:=k+3) rfl ?_)))))))
 have hl:∀(l:List Nat)(fr:List Slot),fr=[.val (ord c a b 0 fq),.val (.str nm),.own (.ob (.list (l.map nI)))]->hU (au N (k+3)) N (.cons (.ret (.tup (.cons (.call (.bc (.obj 268)) (.cons (.var 2) .nil)) (.cons (.lst false (.cons (.attr (.var 0) 6) .nil)) .nil)))) .nil) (fr,wl)=
  some (.ret (.tup [nL ((ae 16).filter λn=>decide (n∈l)),nL [a]]),fr,wl):=λl fr e=>by
  subst e;exact br (bZ (iF (ah (aG (ah rfl aE) (lj (.inr rfl))) (ah rfl aE)) rfl))
 refine bt rfl rfl (ao (aZ (aG (ah rfl aE) (h2 (k+1) wl)) rfl) (ao (bl (Ah (f5 (mU hn rfl rfl) λ_=>f5 (mU he rfl rfl) λ_=>r_)) aY)
  (ao (gD (t:=.ob (.list ((if Uy then[]else[a]).map nI))) (Cy (mU hm rfl rfl) (λe=>by subst e;rfl) (λe=>by subst e;rfl)) rfl) (ao (z:=some (_,[.val (ord c a b 0 fq),.val (.str nm),.own (.ob (.list (((if Uy then[]else[a])++if reg then[b]else[]).map nI)))],wl)) (cJ:=[.val (ord c a b 0 fq),.val (.str nm),.own (.ob (.list (((if Uy then[]else[a])++if reg then[b]else[]).map nI)))]) (w1:=wl) ?_ (hl _ _ rfl)))))
 have h3:=h3 (k+2) wl;induction reg using ax with
 |false=>simp only[ey,if_false,cC];exact bl (jG rfl (aG (ah rfl aE) h3)) aY
 |true=>simp only[if_true,bf];exact cz (jG rfl (aG (ah rfl aE) h3)) (ao (i8 rfl rfl (by induction Uy using ax<;>rfl)) aY)
theorem Ni{c:Int}(h1:∀k wl,[158,207,221,200].map (λf=>au N (k+2) (.obj f) [.fv (ord c a b off 0)] wl)=bD 4 (some (.bool false,wl)))(h2:∀k wl,[165,179].map (λf=>au N (k+2) (.obj f) [.fv (ord c a b off 0)] wl)=bD 2 (some (.bool true,wl))):
 Uses N (ord c a b off 0) ((ae 16).filter λn=>decide (n∈[a,b])) []:=λk wl=>by
 have x:=h1 (k+1) wl
 have x1:=(aL x).1
 have x2:=(aL (aL x).2).1
 have x3:=(aL (aL (aL x).2).2).1
 have x4:=(aL (aL (aL (aL x).2).2).2).1
 have y:=h2 (k+1) wl
 have y1:=(aL (h2 (k+2) wl)).1
 have y2:=(aL (aL y).2).1
 have x1:=(aL (h1 (k+2) wl)).1;exact cM rfl (bt rfl rfl (ao (bl (jG rfl (aG (ah rfl aE) x1)) aY) (br (cz (jG rfl (aG (ah rfl aE) y1)) (br (bZ (aG (ah rfl aE) (cM (k:=k+3) rfl (bt rfl rfl
  (ao (bl (jG rfl (aG (ah rfl aE) x2)) aY) (ao (bl (jG rfl (aG (ah rfl aE) x3)) aY) (ao (bl (jG rfl (aG (ah rfl aE) x4)) aY)
    (br (cz (jG rfl (aG (ah rfl aE) y2)) (br (bZ (iF (ah (aG (ah rfl aE) (lj (l:=[a,b]) (.inl rfl))) (ah rfl aE)) rfl)))))))))))))))))
theorem Nf{c:Int}(h1:∀k wl,[158,165,249].map (λf=>au N (k+2) (.obj f) [.fv (ord c a b off 0)] wl)=bD 3 (some (.bool false,wl)))(h3:dq c 7=3):
 Uses N (ord c a b off 0) ((ae 16).filter λn=>decide (n∈[a,b])) []:=λk wl=>by
 have x:=h1 (k+2) wl
 have x1:=(aL x).1
 have x2:=(aL (aL x).2).1
 have x3:=(aL (aL (aL x).2).2).1
 have e1:ev (au N (k+4)) (.bin .BitAnd (.attr (.var 0) 5) (.lit (.int 7))) [.val (ord c a b off 0),.unset] wl=some (.fv (.int 3),wl):=by exact eL h3 rfl
 exact cM rfl (bt rfl rfl (ao (bl (jG rfl (aG (ah rfl aE) x1)) aY) (ao (bl (jG rfl (aG (ah rfl aE) x2)) aY) (ao (aZ e1 rfl) (ao (bl rfl aY) (ao (bl rfl aY) (ao (bl rfl aY)
  (ao (bl (jG rfl (aG (ah rfl aE) x3)) aY) (br (bZ (iF (ah (aG (ah rfl aE) (lj (l:=[a,b]) (.inl rfl))) (ah rfl aE)) rfl)))))))))))
theorem Nj{c:Int}{nm:bA}{cmp fet:Bool}(h1:∀k wl,[158,165].map (λf=>au N (k+2) (.obj f) [.fv (ord c a b off fq)] wl)=bD 2 (some (.bool false,wl)))(h2:∀k wl,au N (k+2) (.obj 249) [.fv (ord c a b off fq)] wl=some (.bool true,wl))
 (h3:dq c 7=3)(h4:∀k wl,au N (k+2) (.obj 263) [.fv (ord c a b off fq)] wl=some (.str nm,wl))(h5:(nm==aa "cmpxchg")=cmp)
 (h6:∀C fr,eK C (.uJ (.cons (.cmp .Eq (.var 1) (.lit (.str (aa "xchg")))) (.cons (.cmp .Eq (.xy (.var 1) (.lit .none) (.lit (.int 5))) (.lit (.str (aa "fetch")))) .nil))) [fr,.val (.str nm),.val (nL [a,b])] wl=some (fet,wl)):
 au N (k+5) (.obj 296) [.fv (ord c a b off fq)] wl=some (.tup [nL ((ae 16).filter λn=>decide (n∈[a,b]++if cmp then[0]else[])),nL (if cmp then[0]else if fet then[b]else[])],wl):=by
 have x:=h1 (k+2) wl
 have x1:=(aL x).1
 have x2:=(aL (aL x).2).1
 have e1:ev (au N (k+4)) (.bin .BitAnd (.attr (.var 0) 5) (.lit (.int 7))) [.val (ord c a b off fq),.unset] wl=some (.fv (.int 3),wl):=by exact eL h3 rfl
 refine cM rfl<|bt (cJ:=[.val (ord c a b off fq),.val (.int 3)]) rfl rfl<|ao (bl (jG rfl (aG (ah rfl aE) x1)) aY)<|ao (bl (jG rfl (aG (ah rfl aE) x2)) aY)<|ao (aZ e1 rfl)<|ao (bl rfl aY)<|ao (bl rfl aY)<|ao (bl rfl aY)<|
  br<|cz (jG rfl (aG (ah rfl aE) (h2 (k+2) wl)))<|br<|bZ<|aG (ah rfl aE)<|cM (k:=k+3) rfl<|bt (cJ:=[.val (ord c a b off fq),.val (.str nm),.val (nL [a,b])]) rfl rfl<|ao (gm (xs:=[.fv (.str nm),.fv (nL [a,b])]) (ah (aG (ah rfl aE) (h4 (k+1) wl)) (ah rfl aE)) rfl) ?_
 induction cmp using ax with
 |true=>exact br (cz (mU h5 rfl rfl) (br (bZ (iF (ah (aG (ah rfl aE) (lj (l:=[a,b]++[0]) (.inl rfl))) (ah rfl aE)) rfl))))
 |false=>
  refine ao (bl (mU h5 rfl rfl) aY) ?_;induction fet using ax with
  |true=>exact br (cz (h6 _ _) (br (bZ (iF (ah (aG (ah rfl aE) (lj (l:=[a,b]) (.inl rfl))) (ah rfl aE)) rfl))))
  |false=>exact ao (bl (h6 _ _) aY) (br (bZ (iF (ah (aG (ah rfl aE) (lj (l:=[a,b]) (.inl rfl))) (ah rfl aE)) rfl)))
section
variable {a b:IE}{x y:Int}{r:Bool}
theorem tr(h:decide (x<y)=r)(h1:ev C a fr wl=some (.fv (.int x),wl))(h2:ev C b fr wl=some (.fv (.int y),wl)):eK C (.cmp .Lt a b) fr wl=some (r,wl):=fJ h1 h2 (congrArg some h)
theorem Io(h:decide (y<x)=r)(h1:ev C a fr wl=some (.fv (.int x),wl))(h2:ev C b fr wl=some (.fv (.int y),wl)):eK C (.cmp .Gt a b) fr wl=some (r,wl):=fJ h1 h2 (congrArg some h)
theorem aa1(h:decide (x<=y)=r)(h1:ev C a fr wl=some (.fv (.int x),wl))(h2:ev C b fr wl=some (.fv (.int y),wl)):eK C (.cmp .LtE a b) fr wl=some (r,wl):=fJ h1 h2 (congrArg some h)
theorem T7(h:decide (y<=x)=r)(h1:ev C a fr wl=some (.fv (.int x),wl))(h2:ev C b fr wl=some (.fv (.int y),wl)):eK C (.cmp .GtE a b) fr wl=some (r,wl):=fJ h1 h2 (congrArg some h)
theorem gJ(h:(x==y)=r)(h1:ev C a fr wl=some (.fv (.int x),wl))(h2:ev C b fr wl=some (.fv (.int y),wl)):eK C (.cmp .Eq a b) fr wl=some (r,wl):=fJ h1 h2 (congrArg some h)
theorem Mh(h:(x==y)=r)(h1:ev C a fr wl=some (.fv (.int x),wl))(h2:ev C b fr wl=some (.fv (.int y),wl)):eK C (.cmp .NotEq a b) fr wl=some (!r,wl):=fJ h1 h2 (by subst h;rfl)
end
noncomputable def oct(x w:Nat):List Int:=(ae w).map λ(i:Nat)=> -(x:Int)-1+(i:Int)
noncomputable def dG(o:Int):Nat:=(-o-1).toNat/8
noncomputable def whole(l:List Nat):List Nat:=l.filter λs=>l.count s==8
theorem HG{x w:Nat}(hx:x<=600)(hw:w<=8):items (.fv (.range (-(x:Int)-1) (-(x:Int)-1+w) 1))=some ((oct x w).map .int):=by
 have e:b8 (-(x:Int)-1) (-(x:Int)-1+w) 1=(w:Int):=by
  delta b8;rw[if_pos (by decide),Yb];split<;>lia
 have s:nu (-(x:Int)-1) (-(x:Int)-1+w) 1=true:=by
  delta nu jI cg rb;refine eW e ?_;simp only[bY,gO,decide_eq_true_iff];refine⟨⟨⟨?_,.inr ?_⟩,by decide⟩,by lia⟩<;>simp<;>lia
 show(if nu _ _ 1=true then some ((oQ _ _ 1).map FV.int)else ab)=_;refine eW (if_pos s) ?_;delta oQ oct;refine eW e<|eW (cI ..) ?_;refine congrArg some (congrArg _ (dA λi _=>?_));exact eW (Zc ..) rfl
theorem Jw(x w:Nat):(oct x w).map dG=(ae w).map λi=>(x-i)/8:=by
 delta oct;refine eW bH ?_;refine dA λi _=>?_
 show(-(-(x:Int)-1+i)-1).toNat/8=_;exact eW Int.neg_add<|eW (Zb ..)<|eW (Y_ ..)<|eW (Yc 1 ..)<|eW (MF ..)<|eW (tG ..)<|eL Int.sub_eq_add_neg<|eW (Int.toNat_sub ..) rfl
noncomputable def Sw(x w:Nat):List Nat:=(ae w).map λi=>(x-i)/8
theorem Oa:((ae 512).all λx=>(ae 9).all λw=> !rh w (x+1)||c5 w 0||c5 (bG ((ae (x/8+1-(x+1-w)/8)).map λi=>(x+1-w)/8+i)) (bG (Sw x w)))=true:=by decide+kernel
theorem VU:((ae 512).all λx=> !rh 8 (x+1)||c5 (bG (whole (Sw x 8))) (if x%8==7 then bG (Sw x 8)else 0))=true:=by decide+kernel
theorem Jb(h:l.length<8):whole l=[]:=jK.mpr λa _ e=>b9 8 (aQ (eq_of_beq e▸List.count_le_length) h)
theorem Kg{x w:Nat}(hx:x<512)(hw:w<=x+1)(h0:0<w)(h8:w<=8):bG ((ae (x/8+1-(x+1-w)/8)).map λi=>(x+1-w)/8+i)=bG ((oct x w).map dG)/\
 bG (whole ((oct x w).map dG))=if w==8&&x%8==7 then bG ((oct x w).map dG)else 0:=by
 have h:=aH.mp (aH.mp Oa x (aC.mpr hx)) w (aC.mpr (dZ h8));rw[abf.mpr hw,Ax,mZ,show c5 w 0=false from dX.mpr λe=>e_ h0 (bN e),mZ]at h;refine eW (Jw ..) ?_;refine⟨bN h,?_⟩;by_cases q:w=8
 . subst q
   have g:=aH.mp VU x (aC.mpr hx);rw[abf.mpr hw,Ax,mZ]at g;exact bN g
 . rw[Jb (by rw[aj,aq];exact gL h8 q),beq_eq_false_iff_ne.mpr q];rfl
theorem Sz{x:Nat}(hx:x<512):decide (-(x:Int)-1< -512)=false:=a9.mp (show(ae 512).map (λ(x:Nat)=>decide (-(x:Int)-1< -512))=(ae 512).map λ(x:Nat)=>false from by kernel_rfl) x (aC.mpr hx)
theorem VZ(x:Nat): -(-(x:Int)-1)=((x+1:Nat):Int):=by exact eW (Zb ..)<|eW (Y_ ..)<|eW (Yc ..) rfl
theorem rU{x w:Nat}(hx:x<512)(hw:w<=x+1)(h0:0<w)(h8:w<=8):au N (k+2) (.obj 616) [.fv (.int (-(x:Int)-1)),.fv (nI w)] wl=some (nI (bG ((oct x w).map dG)),wl):=by
 have t1:decide (-(x:Int)-1< -512)=false:=Sz hx
 have t2:decide (0< -(x:Int)-1+w)=false:=decide_eq_false (by lia)
 have f0:∀n:Nat,i7 .FloorDiv (.fv (nI n)) (.fv (.int 8))=some (.fv (nI (n/8))):=λn=>congrArg (λz=>some (EV.fv (.int z))) (fk _ (by decide))
 have f1:i7 .FloorDiv (.fv (.int (-(-(x:Int)-1)-1))) (.fv (.int 8))=some (.fv (nI (x/8))):=(congrArg (λz=>i7 .FloorDiv (.fv (.int (z-1))) (.fv (.int 8))) (VZ x)).trans ((congrArg (λz=>i7 .FloorDiv (.fv (.int z)) (.fv (.int 8))) (show((x+1:Nat):Int)-1=x from tG (x:Int) 1)).trans (f0 x))
 have f2:i7 .FloorDiv (.fv (.int (-(-(x:Int)-1)-w))) (.fv (.int 8))=some (.fv (nI ((x+1-w)/8))):=(congrArg (λz=>i7 .FloorDiv (.fv (.int (z-w))) (.fv (.int 8))) (VZ x)).trans ((congrArg (λz=>i7 .FloorDiv (.fv (.int z)) (.fv (.int 8))) (Cw hw).symm).trans (f0 _))
 have hm:au N (k+1) (.obj 578) [.fv (.range ((x+1-w)/8:Nat) ((x/8:Nat)+1:Int) 1)] wl=some (nI (bG ((oct x w).map dG)),wl):=by
  have hb:x/8+1<=100000:=ak (cB (Nat.div_le_self x 8)) (ll (show x+1<=512 from hx) rfl)
  have hu:x+1-w<=x:=Iz (ct h0 x)
  have e:=th (N:=N) (k:=k) (wl:=wl) (d:=.range ((x+1-w)/8:Nat) ((x/8+1:Nat):Int) 1) (l:=(ae (x/8+1-(x+1-w)/8)).map λi=>(x+1-w)/8+i) (by exact eW bH<|rE (jZ (Nat.div_le_div_right hu)) hb) (λn hn=>by
   (refine bS (bO.mp hn) λi hi q1=>?_;subst q1)
   rw[aC]at hi;exact ak (bW (fu hi)) (ll hb rfl))
  exact(Kg hx hw h0 h8).1▸e
 exact cM rfl<|bt rfl rfl<|ao (bl (Ah (f5 (tr t1 rfl rfl) λ_=>f5 (Io t2 rfl rfl) λ_=>r_)) aY)<|
  ao (gm (xs:=[.fv (nI (x/8)),.fv (nI ((x+1-w)/8))]) (ah (dh rfl rfl f1) (ah (dh rfl rfl f2) aE)) rfl)<|br<|bZ<|aG (ah rfl aE) hm
theorem Ck{v:FV}{o:FV}(h:∀k wl,au N (k+3) (.obj a) [.fv o] wl=some (v,wl)){n:Nat}:ev (au N (n+3)) (.call (.bc (.obj a)) (.cons (.var 0) .nil)) [.val o] wl=some (.fv v,wl):=aG (ah rfl aE) (h n wl)
theorem qL{p q:IE}{b c:Bool}(h1:eK C p fr wl=some (b,wl))(h2:eK C q fr wl=some (c,wl)):eK C (.ic (.cons p (.cons q .nil))) fr wl=some (b&&c,wl):=jH (Ur h1 λ_=>by
 induction c using ax with
 |true=>exact dR h2 pC
 |false=>exact d6 h2)
theorem Xo{x:Nat}(hx:x<512):((-(x:Int)-1).fmod 8==0)=(x%8==7):=a9.mp (show(ae 512).map (λ(x:Nat)=>(-(x:Int)-1).fmod 8==0)=(ae 512).map λ(x:Nat)=>x%8==7 from by kernel_rfl) x (aC.mpr hx)
theorem slot_of{c:Int}{x w:Nat}{ld am st:Bool}(h1:∀k wl,au N (k+3) (.obj 235) [.fv (ord c a b (-(x:Int)-1) fq)] wl=some (.bool ld,wl))(h2:∀k wl,au N (k+3) (.obj 249) [.fv (ord c a b (-(x:Int)-1) fq)] wl=some (.bool am,wl))
 (h3:∀k wl,au N (k+3) (.obj 242) [.fv (ord c a b (-(x:Int)-1) fq)] wl=some (.bool st,wl))(h4:∀k wl,au N (k+3) (.obj 186) [.fv (ord c a b (-(x:Int)-1) fq)] wl=some (nI w,wl))(hx:x<512)(hw:w<=x+1)(HO:0<w)(MN:w<=8):
 au N (k+10) (.obj 630) [.fv (ord c a b (-(x:Int)-1) fq)] wl=
  some (.tup [nI (if(ld&&decide (b=10))||(decide (a=10)&&am)then bG ((oct x w).map dG)else 0),nI (if !((ld&&decide (b=10))||(decide (a=10)&&am))&&(decide (a=10)&&st)then bG (whole ((oct x w).map dG))else 0)],wl):=by
 have tb:∀fr:List Slot,fr=[.val (ord c a b (-(x:Int)-1) fq)]->eK (au N (k+9)) (.cmp .Eq (.attr (.var 0) 7) (.bc (.int 10))) fr wl=some (decide (b=10),wl):=λfr e=>by subst e;exact gJ (x:=b) (y:=10) (by rw[cT,beq_iff_eq,decide_eq_true_iff];exact jf) rfl rfl
 have ta:∀fr:List Slot,fr=[.val (ord c a b (-(x:Int)-1) fq)]->eK (au N (k+9)) (.cmp .Eq (.attr (.var 0) 6) (.bc (.int 10))) fr wl=some (decide (a=10),wl):=λfr e=>by subst e;exact gJ (x:=a) (y:=10) (by rw[cT,beq_iff_eq,decide_eq_true_iff];exact jf) rfl rfl
 have e1:eK (au N (k+9)) (.ic (.cons (.call (.bc (.obj 235)) (.cons (.var 0) .nil)) (.cons (.cmp .Eq (.attr (.var 0) 7) (.bc (.int 10))) .nil))) [.val (ord c a b (-(x:Int)-1) fq)] wl=some (ld&&decide (b=10),wl):=qL (jG rfl (Ck (n:=k+6) h1)) (tb _ rfl)
 have e2:eK (au N (k+9)) (.ic (.cons (.cmp .Eq (.attr (.var 0) 6) (.bc (.int 10))) (.cons (.call (.bc (.obj 249)) (.cons (.var 0) .nil)) .nil))) [.val (ord c a b (-(x:Int)-1) fq)] wl=some (decide (a=10)&&am,wl):=qL (ta _ rfl) (jG rfl (Ck (n:=k+6) h2))
 have rd:ev (au N (k+9)) (.tup (.cons (.call (.bc (.obj 616)) (.cons (.attr (.var 0) 8) (.cons (.call (.bc (.obj 186)) (.cons (.var 0) .nil)) .nil))) (.cons (.lit (.int 0)) .nil))) [.val (ord c a b (-(x:Int)-1) fq)] wl=some (.fv (.tup [nI (bG ((oct x w).map dG)),nI 0]),wl):=
  iF (ah (aG (ah rfl (ah (Ck (n:=k+6) h4) aE)) (rU (k:=k+7) hx hw HO MN)) (ah rfl aE)) rfl
 refine cM (k:=k+9) rfl ?_;induction q1:(ld&&decide (b=10))using ax with
 |true=>exact bt rfl rfl<|br (cz (q1▸e1) (br (bZ rd)))
 |false=>
  induction q2:(decide (a=10)&&am)using ax with
  |true=>exact bt rfl rfl<|ao (bl (q1▸e1) aY)<|br (cz (q2▸e2) (br (bZ rd)))
  |false=>
   refine bt (cJ:=[.val (ord c a b (-(x:Int)-1) fq)]) rfl rfl<|ao (bl (q1▸e1) aY)<|ao (bl (q2▸e2) aY) ?_
   have z0:∀fr:List Slot,hU (au N (k+9)) N (.cons (.ret (.tup (.cons (.lit (.int 0)) (.cons (.lit (.int 0)) .nil)))) .nil) (fr,wl)=some (.ret (.tup [nI 0,nI 0]),fr,wl):=λ_=>rfl
   have e3:eK (au N (k+9)) (.cmp .Eq (.attr (.var 0) 6) (.bc (.int 10))) [.val (ord c a b (-(x:Int)-1) fq)] wl=some (decide (a=10),wl):=ta _ rfl
   have e4:=Ck (n:=k+6) (wl:=wl) h3
   have e5:ev (au N (k+9)) (.call (.bc (.obj 623)) (.cons (.attr (.var 0) 8) (.cons (.call (.bc (.obj 186)) (.cons (.var 0) .nil)) .nil))) [.val (ord c a b (-(x:Int)-1) fq)] wl=some (.fv (.bool (w==8&&x%8==7)),wl):=by
    refine aG (ah rfl (ah (Ck (n:=k+6) h4) aE)) (cM (k:=k+8) rfl (bt (cJ:=[.val (.int (-(x:Int)-1)),.val (nI w)]) rfl rfl ?_));by_cases hw:w=8
    . subst hw
      have:((-(x:Int)-1).fmod 8==0)=(x%8==7):=by
       exact Xo hx
      show some (Fl.ret (.bool ((-(x:Int)-1).fmod 8==0)),_,wl)=_;exact eW this rfl
    . have h8:((w:Int)==8)=false:=by rw[beq_eq_false_iff_ne];exactλc=>hw (jf.mp c)
      have h8':(w==8)=false:=by rw[beq_eq_false_iff_ne];exact hw
      refine eW h8'<|eW (hZ ..) ?_;refine br (bZ ?_);refine eW Pn<|eW tU<|eW z4 ?_
      show((some (EV.fv (.bool ((w:Int)==8)),wl):Option (EV×WL)).bind _)=_;exact eW h8 rfl
   induction q3:decide (a=10)using ax with
   |false=>exact ao (bl (jH (d6 (q3▸e3))) aY) (z0 _)
   |true=>
    induction st using ax with
    |false=>exact ao (bl (jH (dR (q3▸e3) (d6 (jG rfl e4)))) aY) (z0 _)
    |true=>
     induction q5:(w==8&&x%8==7)using ax with
     |false=>
      exact eW ((Kg hx hw HO MN).2)<|eW (if_neg (λe=>ay (q5.symm.trans e)))<|ao (bl (jH (dR (q3▸e3) (dR (jG rfl e4) (d6 (jG rfl (q5▸e5)))))) aY) (z0 _)
     |true=>
      have ht:=rU (N:=N) (k:=k+7) (wl:=wl) hx hw HO MN;rw[<-(Kg hx hw HO MN).2.trans (if_pos q5)]at ht
      have h8:w=8:=eq_of_beq (qy.mp q5).1;subst h8;exact br (cz (jH (dR (q3▸e3) (dR (jG rfl e4) (dR (jG rfl (q5▸e5)) pC)))) (br (bZ (iF (ah rfl (ah (aG (ah rfl (ah rfl aE)) ht) aE)) rfl))))
theorem GS{c:Int}{a b:Int}(h1:∀k wl,au N (k+3) (.obj 235) [.fv (ord c a b off fq)] wl=some (.bool false,wl))(h2:∀k wl,au N (k+3) (.obj 249) [.fv (ord c a b off fq)] wl=some (.bool false,wl))
 (h3:∀k wl,au N (k+3) (.obj 242) [.fv (ord c a b off fq)] wl=some (.bool false,wl)):au N (k+10) (.obj 630) [.fv (ord c a b off fq)] wl=some (.tup [nI 0,nI 0],wl):=by
 have ta:∀fr:List Slot,fr=[.val (ord c a b off fq)]->eK (au N (k+9)) (.cmp .Eq (.attr (.var 0) 6) (.bc (.int 10))) fr wl=some (a==10,wl):=λfr e=>by subst e;exact gJ rfl rfl rfl
 have e2:eK (au N (k+9)) (.ic (.cons (.cmp .Eq (.attr (.var 0) 6) (.bc (.int 10))) (.cons (.call (.bc (.obj 249)) (.cons (.var 0) .nil)) .nil))) [.val (ord c a b off fq)] wl=some (false,wl):=by
  have:=qL (ta _ rfl) (jG rfl (Ck (n:=k+6) (wl:=wl) h2))
  rwa[jL]at this
 have e3:eK (au N (k+9)) (.ic (.cons (.cmp .Eq (.attr (.var 0) 6) (.bc (.int 10))) (.cons (.call (.bc (.obj 242)) (.cons (.var 0) .nil)) (.cons (.call (.bc (.obj 623)) (.cons (.attr (.var 0) 8) (.cons (.call (.bc (.obj 186)) (.cons (.var 0) .nil)) .nil))) .nil)))) [.val (ord c a b off fq)] wl=some (false,wl):=by
  induction q:(a==10)using ax with
  |false=>exact jH (d6 (q▸ta _ rfl))
  |true=>exact jH (dR (q▸ta _ rfl) (d6 (jG rfl (Ck (n:=k+6) h3))))
 exact cM (k:=k+9) rfl<|bt rfl rfl<|ao (bl (jH (d6 (jG rfl (Ck (n:=k+6) h1)))) aY)<|ao (bl e2 aY)<|ao (bl e3 aY)<|br (bZ rfl)
structure Row where
 w:Nat
 f:FV
 md:Int->FV
 asks:List Nat
 gv:List Nat
 rs:List Int
 ws:List Int
 jW:Nat
 fM:Bool
 xX:Bool
noncomputable def oC(w:Nat):bA:=match w with
 |0=>aa "on"
 |1=>aa "branch"
 |2=>aa "jump"
 |3=>aa "exit"
 |_=>aa "call"
def Row.fv(r:Row):FV:=.tup [.str (oC r.w),r.f,nL r.asks,nL r.gv,.list (r.rs.map .int),.list (r.ws.map .int),nI r.jW]
noncomputable def nH(c:Int):Bool:=c%8==4||c%8==7
noncomputable def TO(c:Int):bA:=if c%8=1 then aa "ldx" else if c%8=2 then aa "st" else if c%8=3 then aa "stx" else if c%8=5 then aa "jmp" else if c%8=6 then aa "jmp32" else aa "alu64"
structure r9(N:Nat)(r:Row)(o:FV)(d:Int):Prop where
 told:∀k wl,asked N k wl o=told wl r.w
 dist:r.w=1\/r.w=2\/r.w=4->∀k wl,au N (k+10) (.obj 256) [.fv o] wl=some (.int d,wl)
 VC:∀k wl,au N (k+10) (.obj 597) [.fv o] wl=some (.tup [nI (bG r.asks),nI (bG r.gv)],wl)
 slots:∃a b:Nat,(∀k wl,au N (k+10) (.obj 630) [.fv o] wl=some (.tup [nI a,nI b],wl))/\a<2^64/\(r.fM=false->a=bG (r.rs.map dG)/\b=bG (whole (r.ws.map dG)))
 fM:∀k wl,au N (k+10) (.obj 637) [.fv o] wl=some (.bool r.fM,wl)
 cls:∃s,(∀k wl,au N (k+10) (.obj 151) [.fv o] wl=some (.str s,wl))/\rB s [.str (aa "alu"),.str (aa "alu64")]=some r.xX
 code:∃c:Int,mr (.fv o) 5=some (.fv (.int c))/\j6 (dq c 7) [.int 4,.int 7]=some r.xX
structure Row.Ok(N:Nat)(r:Row):Prop where
 w:r.w<=4
 call:∀k wl a,au N (k+10) r.f [.fv (.int a)] wl=some (r.md a,wl)
 ord:∀a,r9 N r (r.md a) a
 asks:r.asks.length<=16/\∀x∈r.asks,x<16
 gv:∀x∈r.gv,x<16
 xX:r.xX=true->∃x,r.gv=[x]
 rs:r.rs.length<=8/\∀o∈r.rs,-512<=o/\o<= -1
 ws:r.ws.length<=8/\∀o∈r.ws,-512<=o/\o<= -1
def uq:List Int:=Ux++Gk++[5,6,149,133]
theorem rT(a b off fq:Int):∀c∈uq,(∃s,(∀k wl,au N (k+10) (.obj 151) [.fv (ord c a b off fq)] wl=some (.str s,wl))/\rB s [.str (aa "alu"),.str (aa "alu64")]=some (nH c))/\
 ∃x:Int,mr (.fv (ord c a b off fq)) 5=some (.fv (.int x))/\j6 (dq x 7) [.int 4,.int 7]=some (nH c):=by
 have h1:∀k wl,uq.map (λc=>au N (k+10) (.obj 151) [.fv (ord c a b off fq)] wl)=uq.map λc=>some (.str (TO c),wl):=λk wl=>by kernel_rfl
 have h2:uq.map (λc=>rB (TO c) [.str (aa "alu"),.str (aa "alu64")])=uq.map λc=>some (nH c):=by kernel_rfl
 have h3:uq.map (λc=>j6 (dq c 7) [.int 4,.int 7])=uq.map λc=>some (nH c):=by kernel_rfl
 exactλc hc=>⟨⟨TO c,λk wl=>a9.mp (h1 k wl) c hc,a9.mp h2 c hc⟩,c,rfl,a9.mp h3 c hc⟩
theorem Fz{n:Nat}(h:∀x∈l,x<n):bG l<2^n:=Nat.lt_pow_two_of_testBit _ λi hi=>by
 rw[gy,decide_eq_false];exactλc=>Nat.not_le_of_lt (h i c) hi
theorem zh{o:Int}(h: -512<=o/\o<= -1):dG o<64:=IF ((Int.toNat_lt (n:=512) (Int.sub_nonneg_of_le (Un h.2))).mpr (MD (Int.sub_lt_self _ (by decide)) (Un h.1)))
theorem sy{x w:Nat}(hx:x<512)(hw:w<=x+1)(h8:w<=8):(oct x w).length<=8/\∀o∈oct x w,-512<=o/\o<= -1:=by
 unfold oct;refine⟨by refine eW (aj ..)<|eW aq ?_;exact h8,λo ho=>?_⟩
 (refine bS (bO.mp ho) λi hi q1=>?_;subst q1)
 rw[aC]at hi;lia
theorem N_{l:List Int}(h:∀o∈l,-512<=o/\o<= -1):bG (l.map dG)<2^64:=Fz λt ht=>by
 (refine bS (bO.mp ht) λo ho q2=>?_;subst q2)
 exact zh (h o ho)
noncomputable def memC:List (Int×Bool×Bool×Bool×Nat):=[(121,true,false,false,8),(97,true,false,false,4),(105,true,false,false,2),(113,true,false,false,1),(129,true,false,false,4),(137,true,false,false,2),(145,true,false,false,1),
 (123,false,false,true,8),(99,false,false,true,4),(107,false,false,true,2),(115,false,false,true,1),(122,false,false,true,8),(98,false,false,true,4),(106,false,false,true,2),(114,false,false,true,1),(219,false,true,false,8),(195,false,true,false,4)]
theorem Ou(a b off fq:Int):∀t∈memC,∀k wl,[235,249,242,186,158,165,207,214,221].map (λf=>au N (k+2) (.obj f) [.fv (ord t.1 a b off fq)] wl)=[.bool t.2.1,.bool t.2.2.1,.bool t.2.2.2.1,nI t.2.2.2.2,.bool false,.bool false,.bool false,.bool false,.bool false].map λv=>some (v,wl):=by
 intro t ht k wl
 have h:memC.map (λt=>[235,249,242,186,158,165,207,214,221].map (λf=>au N (k+2) (.obj f) [.fv (ord t.1 a b off fq)] wl))=memC.map λt=>[.bool t.2.1,.bool t.2.2.1,.bool t.2.2.2.1,nI t.2.2.2.2,.bool false,.bool false,.bool false,.bool false,.bool false].map λv=>some (v,wl):=by kernel_rfl
 exact a9.mp h t ht
theorem rA:∀t∈memC,t.1∈Ux/\t.1∈uq/\nH t.1=false/\0<t.2.2.2.2/\t.2.2.2.2<=8/\((t.2.1||t.2.2.1)&&t.2.2.2.1)=false:=by decide+kernel
theorem eV(hb:b<16):∀x∈[b],x<16:=λ_ h=>aI.mp h▸hb
theorem eA:∀x∈([]:List Nat),x<16:=λ_ h=>absurd h a8
theorem j_(hb:b<10):b<16:=az hb (av rfl)
theorem V1(hb:b<10):((b:Int)==10)=false:=beq_eq_false_iff_ne.mpr λe=>bx hb (pX e)
theorem mi(ha:a<16)(hb:b<16):∀x∈[a,b],x<16:=λ_ h=>(a6.mp h).elim (λe=>e▸ha) (eV hb _)
variable{r:Row}
theorem KG(a b off fq:Int):∀t∈memC,∀k wl,au N (k+10) (.obj 637) [.fv (ord t.1 a b off fq)] wl=some (.bool (t.1%8==3&&b==10),wl):=by
 intro t ht k wl
 have h:memC.map (λt=>au N (k+10) (.obj 637) [.fv (ord t.1 a b off fq)] wl)=memC.map λt=>some (.bool (t.1%8==3&&b==10),wl):=by kernel_rfl
 exact a9.mp h t ht
theorem kA{α:Type}{l l':List α}(h:l=l')(i:Nat):l[i]?=l'[i]?:=by exact eW h rfl
theorem zt{t:Int×Bool×Bool×Bool×Nat}(ht:t∈memC){x:Nat}{d:Int}{ru wu:List Nat}(hw:r.w=0)(hx:x<512)(sf:t.2.2.2.2<=x+1)(hu:Uses N (ord t.1 a b (-(x:Int)-1) fq) ru wu)(l1:ru.length<=16)(l2:wu.length<=16)(s1:∀x∈ru,x<16)(s2:∀x∈wu,x<16)
 (hr:bG ru=bG r.asks)(hl:bG wu=bG r.gv)(lk:(t.1%8==3&&((b:Int)==10))=r.fM)(al:r.xX=false)
 (hs:r.fM=false->(if(t.2.1&&decide (b=10))||(decide (a=10)&&t.2.2.1)then oct x t.2.2.2.2 else[])=r.rs/\(if decide (a=10)&&t.2.2.2.1 then oct x t.2.2.2.2 else[])=r.ws):r9 N r (ord t.1 a b (-(x:Int)-1) fq) d:=by
 (refine iQ (rA t ht) λm1 m2 m3 m4 m5 m6=>?_)
 have M:=Ou (N:=N) a b (-(x:Int)-1) fq t ht
 have c:=rT (N:=N) a b (-(x:Int)-1) fq t.1 m2;rw[m3,<-al]at c;refine⟨λk wl=>hw▸E5 _ _ _ _ t.1 m1,λh=>by rw[hw]at h;exact absurd h (by decide),λk wl=>?_,⟨_,_,λk wl=>slot_of (ld:=t.2.1) (am:=t.2.2.1) (st:=t.2.2.2.1) (λk wl=>(aL (M (k+1) wl)).1) (λk wl=>ag (kA (M (k+1) wl) 1)) (λk wl=>ag (kA (M (k+1) wl) 2)) (λk wl=>ag (kA (M (k+1) wl) 3)) hx sf m4 m5,?_,λh=>?_⟩,λk wl=>lk▸KG a b _ fq t ht k wl,c.1,c.2⟩
 . have:=JS (N:=N) (k:=k) (wl:=wl) (o:=ord t.1 a b (-(x:Int)-1) fq) (λk wl=>congrArg (List.drop 6) (M (k+3) wl)) hu l1 l2 s1 s2
   rw[hr,hl]at this;exact this
 . split
   . exact N_ (sy hx sf m5).2
   . exact xv (by decide)
 . (refine xA (hs h) λh1 h2=>?_)
   refine eL h1<|eL h2 ?_
   have e:(!((t.2.1&&decide (b=10))||(decide (a=10)&&t.2.2.1))&&(decide (a=10)&&t.2.2.2.1))=(decide (a=10)&&t.2.2.2.1):=by
    revert m6
    induction t.2.1 using ax<;>induction t.2.2.1 using ax<;>induction t.2.2.2.1 using ax<;>induction decide (a=10)using ax<;>induction decide (b=10)using ax<;>decide
   exact eW e<|⟨by split<;>rfl,by split<;>rfl⟩
theorem vA{x w:Nat}{p:Prop}[Decidable p](h:(oct x w).length<=8/\∀o∈oct x w,-512<=o/\o<= -1):(if p then oct x w else[]).length<=8/\∀o∈(if p then oct x w else[]),-512<=o/\o<= -1:=by
 split
 . exact h
 . exact⟨aU _,λ_ h=>absurd h a8⟩
theorem di:([]:List Int).length<=8/\∀o∈([]:List Int),-512<=o/\o<= -1:=⟨aU _,λ_ h=>absurd h a8⟩
section
variable {x w:Nat}{c:Int}
theorem Nh(off fq:Int):∀c∈([121,97,105,113,129,137,145]:List Int),Uses N (ord c a b off fq) [b] [a]:=λc hc k wl=>by
 have h:([121,97,105,113,129,137,145]:List Int).map (λc=>au N (k+5) (.obj 296) [.fv (ord c a b off fq)] wl)=([121,97,105,113,129,137,145]:List Int).map λc=>some (.tup [nL [b],nL [a]],wl):=by kernel_rfl
 exact a9.mp h c hc
theorem Ng(off fq:Int):∀c∈([122,98,106,114]:List Int),Uses N (ord c a b off fq) [a] []:=λc hc k wl=>by
 have h:([122,98,106,114]:List Int).map (λc=>au N (k+5) (.obj 296) [.fv (ord c a b off fq)] wl)=([122,98,106,114]:List Int).map λc=>some (.tup [nL [a],nL []],wl):=by kernel_rfl
 exact a9.mp h c hc
noncomputable abbrev i_(x:Nat):Int:= -(x:Int)-1
noncomputable def ldC(sx:Bool):List (Nat×Int):=if sx then[(8,129),(4,129),(2,137),(1,145)]else[(8,121),(4,97),(2,105),(1,113)]
def Ba(sx:Bool)(c:Int)(base one x w:Nat):Row:=⟨0,.mB (if sx then 5 else 6) [nI base,.int (i_ x),nI one,nI w],λ_=>ord c one base (i_ x) 0,[base],[one],if base=10 then oct x (if sx then min w 4 else w)else[],[],0,false,false⟩
theorem JV{sx:Bool}(hc:(w,c)∈ldC sx):(c,true,false,false,if sx then min w 4 else w)∈memC/\c∈([121,97,105,113,129,137,145]:List Int)/\(c%8==3)=false/\∀k wl y(a b:Nat),au N (k+10) (Ba sx c b a x w).f [.fv (.int y)] wl=some (ord c a b (i_ x) 0,wl):=by
 have h1:∀sx,∀p∈ldC sx,(p.2,true,false,false,if sx then min p.1 4 else p.1)∈memC/\p.2∈([121,97,105,113,129,137,145]:List Int)/\(p.2%8==3)=false:=by decide+kernel
 have h2:∀sx k wl y(a b:Nat),(ldC sx).map (λp=>au N (k+10) (Ba sx p.2 b a x p.1).f [.fv (.int y)] wl)=(ldC sx).map λp=>some (ord p.2 a b (i_ x) 0,wl):=λsx k wl y a b=>by induction sx using ax<;>kernel_rfl
 exact⟨(h1 sx (w,c) hc).1,(h1 sx (w,c) hc).2.1,(h1 sx (w,c) hc).2.2,λk wl y a b=>a9.mp (h2 sx k wl y a b) (w,c) hc⟩
theorem A_{sx:Bool}(hc:(w,c)∈ldC sx)(ha:a<10)(hb:b<16)(hx:x<512)(hw:w<=x+1):(Ba sx c b a x w).Ok N:=
 fA (JV (N:=N) (x:=x) hc) λt1 t2 t4 t3=>
 have UA:(if sx then min w 4 else w)<=x+1:=sx.casesOn (motive:=λsx=>(if sx then min w 4 else w)<=x+1) hw (ak (pV _ _) hw)
 ⟨aU _,λk wl y=>t3 k wl y a b,λy=>zt t1 rfl hx UA (Nh _ _ c t2) (av rfl) (av rfl) (eV hb) (eV (j_ ha)) rfl rfl ((congrArg (·&&_) t4).trans (hZ _)) rfl (λ_=>⟨by simp[Ba],by simp[Ba]⟩),
   ⟨av rfl,eV hb⟩,eV (j_ ha),λh=>absurd h ay,vA (sy hx UA (rA _ t1).2.2.2.2.1),di⟩
noncomputable def stC:List (Nat×Int):=[(8,123),(4,99),(2,107),(1,115)]
def Sj(c:Int)(base one x w:Nat):Row:=⟨0,.mB 4 [nI base,.int (i_ x),nI one,nI w],λ_=>ord c base one (i_ x) 0,[base,one],[],[],if base=10 then oct x w else[],0,false,false⟩
theorem Jt(hc:(w,c)∈stC):(c,false,false,true,w)∈memC/\(c%8==3)=true/\dq c 7=3/\(∀k wl(a b:Nat) y z,au N (k+10) (.mB 4 [nI a,.int y,nI b,nI w]) [.fv (.int z)] wl=some (ord c a b y 0,wl))/\
 ∀(a b:Int) off k wl,[158,165,249].map (λf=>au N (k+2) (.obj f) [.fv (ord c a b off 0)] wl)=bD 3 (some (.bool false,wl)):=by
 have h1:∀p∈stC,(p.2,false,false,true,p.1)∈memC/\(p.2%8==3)=true/\dq p.2 7=3:=by decide+kernel
 have h2:∀k wl(a b:Nat) y z,stC.map (λp=>au N (k+10) (.mB 4 [nI a,.int y,nI b,nI p.1]) [.fv (.int z)] wl)=stC.map λp=>some (ord p.2 a b y 0,wl):=λk wl a b y z=>by kernel_rfl
 have h3:∀(a b:Int) off k wl,stC.map (λp=>[158,165,249].map (λf=>au N (k+2) (.obj f) [.fv (ord p.2 a b off 0)] wl))=stC.map λ_=>bD 3 (some (.bool false,wl)):=λa b off k wl=>by kernel_rfl
 exact⟨(h1 (w,c) hc).1,(h1 (w,c) hc).2.1,(h1 (w,c) hc).2.2,λk wl a b y z=>a9.mp (h2 k wl a b y z) (w,c) hc,λa b off k wl=>a9.mp (h3 a b off k wl) (w,c) hc⟩
theorem kf:((ae 16).filter λn=>decide (n∈l)).length<=16/\∀x∈(ae 16).filter (λn=>decide (n∈l)),x<16:=⟨dF _ _,λx hx=>aC.mp (eO.mp hx).1⟩
theorem Bi{d:Int}(hc:(w,c)∈stC)(ha:a<16)(hb:b<16)(hx:x<512)(hw:w<=x+1)(h0:r.w=0)(h1:r.asks=[a,b])(h2:r.gv=[])(h3:((b:Int)==10)=r.fM)(h4:r.xX=false)(h5:r.fM=false->[]=r.rs/\(if a=10 then oct x w else[])=r.ws):r9 N r (ord c a b (i_ x) 0) d:=
 kI (Jt (N:=N) hc) λt1 t2 t3 _ t5=>zt t1 h0 hx hw (Nf (λk wl=>t5 _ _ _ k wl) t3) kf.1 (aU _) kf.2 eA ((pL (mi ha hb)).trans (congrArg bG h1.symm)) (congrArg bG h2.symm) ((congrArg (·&&_) t2).trans ((gQ _).trans h3)) h4 (λh=>by simpa using h5 h)
theorem Hd(hc:(w,c)∈stC)(ha:a<16)(hb:b<10)(hx:x<512)(hw:w<=x+1):(Sj c a b x w).Ok N:=
 kI (Jt (N:=N) hc) λt1 _ _ t4 _=>⟨aU _,λk wl y=>t4 _ _ _ _ _ _,λy=>Bi hc ha (j_ hb) hx hw rfl rfl rfl (V1 hb) rfl (λ_=>⟨rfl,rfl⟩),⟨av rfl,mi ha (j_ hb)⟩,eA,λh=>absurd h ay,di,vA (sy hx hw (rA _ t1).2.2.2.2.1)⟩
def NN(base x:Nat):Row:=⟨0,.mB 14 [nI base,.int (i_ x)],λ_=>ord 123 base 10 (i_ x) 0,[base,10],[],[],[],0,true,false⟩
theorem Dc(ha:a<16)(hx:x<512)(hw:8<=x+1):(NN a x).Ok N:=
 ⟨aU _,λk wl y=>by kernel_rfl,λy=>Bi (w:=8) (b:=10) (by decide) ha (by decide) hx hw rfl rfl rfl rfl rfl (λh=>absurd h.symm ay),⟨av rfl,mi ha (by decide)⟩,eA,λh=>absurd h ay,di,di⟩
noncomputable def Ut:List (Nat×Int):=[(8,122),(4,98),(2,106),(1,114)]
def Fe(c:Int)(base x w:Nat):Row:=⟨0,.mB 3 [nI base,.int (i_ x),nI w],λ_=>ord c base 0 (i_ x) 3,[base],[],[],if base=10 then oct x w else[],0,false,false⟩
theorem De(hc:(w,c)∈Ut):(c,false,false,true,w)∈memC/\(c%8==3)=false/\c∈([122,98,106,114]:List Int)/\(∀k wl(a:Nat) y z,au N (k+10) (.mB 3 [nI a,.int y,nI w]) [.fv (.int z)] wl=some (ord c a 0 y 3,wl)):=by
 have h1:∀p∈Ut,(p.2,false,false,true,p.1)∈memC/\(p.2%8==3)=false/\p.2∈([122,98,106,114]:List Int):=by decide+kernel
 have h2:∀k wl(a:Nat) y z,Ut.map (λp=>au N (k+10) (.mB 3 [nI a,.int y,nI p.1]) [.fv (.int z)] wl)=Ut.map λp=>some (ord p.2 a 0 y 3,wl):=λk wl a y z=>by kernel_rfl
 exact⟨(h1 (w,c) hc).1,(h1 (w,c) hc).2.1,(h1 (w,c) hc).2.2,λk wl a y z=>a9.mp (h2 k wl a y z) (w,c) hc⟩
theorem Df(hc:(w,c)∈Ut)(ha:a<16)(hx:x<512)(hw:w<=x+1):(Fe c a x w).Ok N:=
 fA (De (N:=N) hc) λt1 t2 t3 t4=>⟨aU _,λk wl y=>t4 _ _ _ _ _,λy=>zt (b:=0) t1 rfl hx hw (Ng _ _ c t3) (av rfl) (aU _) (eV ha) eA rfl rfl ((congrArg (·&&_) t2).trans (hZ _)) rfl (λ_=>by simp[Fe]),⟨av rfl,eV ha⟩,eA,λh=>absurd h ay,di,vA (sy hx hw (rA _ t1).2.2.2.2.1)⟩
noncomputable def wH:List (Int×bA×Bool×Bool):=[(0,aa "add",false,false),(65,aa "fetch_or",false,true),(241,aa "cmpxchg",true,false),(225,aa "xchg",false,true),(160,aa "xor",false,false)]
noncomputable def P4:List (Nat×Int):=[(8,219),(4,195)]
def Fg(c:Int)(t:Int×bA×Bool×Bool)(base one x w:Nat):Row:=⟨0,.mB 2 [nI base,.str t.2.1,.int (i_ x),nI one,nI w],λ_=>ord c base one (i_ x) t.1,[base,one]++if t.2.2.1 then[0]else[],if t.2.2.1 then[0]else if t.2.2.2 then[one]else[],if base=10 then oct x w else[],[],0,false,false⟩
theorem Q9{t:Int×bA×Bool×Bool}(hc:(w,c)∈P4)(ht:t∈wH):(c,false,true,false,w)∈memC/\(c%8==3)=true/\(∀k wl(a b:Nat) y z,au N (k+10) (.mB 2 [nI a,.str t.2.1,.int y,nI b,nI w]) [.fv (.int z)] wl=some (ord c a b y t.1,wl))/\
 ∀(a b:Nat) off k wl,au N (k+5) (.obj 296) [.fv (ord c a b off t.1)] wl=some (.tup [nL ((ae 16).filter λn=>decide (n∈[a,b]++if t.2.2.1 then[0]else[])),nL (if t.2.2.1 then[0]else if t.2.2.2 then[b]else[])],wl):=by
 have h1:∀p∈P4,(p.2,false,true,false,p.1)∈memC/\(p.2%8==3)=true:=by decide+kernel
 have h2:∀k wl(a b:Nat) y z,P4.map (λp=>wH.map λt=>au N (k+10) (.mB 2 [nI a,.str t.2.1,.int y,nI b,nI p.1]) [.fv (.int z)] wl)=P4.map λp=>wH.map λt=>some (ord p.2 a b y t.1,wl):=λk wl a b y z=>by kernel_rfl
 refine⟨(h1 (w,c) hc).1,(h1 (w,c) hc).2,λk wl a b y z=>a9.mp (a9.mp (h2 k wl a b y z) (w,c) hc) t ht,λa b off k wl=>?_⟩;simp only[P4,a6,MX,a8,or_false]at hc;simp only[wH,a6,a8,or_false]at ht;refine Nj (nm:=t.2.1) (λk wl=>?_) (λk wl=>?_) ?_ (λk wl=>?_) ?_ λC fr=>?_<;>rcases hc with⟨rfl,rfl⟩|⟨rfl,rfl⟩<;>rcases ht with rfl|rfl|rfl|rfl|rfl<;>kernel_rfl
theorem lt_if{t:Bool}(ha:a<16)(hb:b<16):∀x∈[a,b]++(if t then[0]else[]),x<16:=λx h=>(cq.mp h).elim (mi ha hb x) (t.casesOn (motive:=λt=>x∈(if t then[0]else[])->x<16) (eA x) (eV (by decide) x))
theorem lt_iff{t u:Bool}(hb:b<16):∀x∈(if t then[0]else if u then[b]else[]),x<16:=t.casesOn (motive:=λt=>∀x∈(if t then[0]else if u then[b]else[]),x<16) (u.casesOn (motive:=λu=>∀x∈(if u then[b]else[]),x<16) eA (eV hb)) (eV (by decide))
theorem SU{t u:Bool}:(if t then[0]else if u then[b]else[]).length<=16:=t.casesOn (motive:=λt=>(if t then[0]else if u then[b]else[]).length<=16) (u.casesOn (motive:=λu=>(if u then[b]else[]).length<=16) (aU _) (av rfl)) (av rfl)
theorem Fo{t:Int×bA×Bool×Bool}{d:Int}(hc:(w,c)∈P4)(ht:t∈wH)(ha:a<16)(hb:b<16)(hx:x<512)(hw:w<=x+1)(h0:r.w=0)(h1:r.asks=[a,b]++if t.2.2.1 then[0]else[])(h2:r.gv=if t.2.2.1 then[0]else if t.2.2.2 then[b]else[])(h3:((b:Int)==10)=r.fM)(h4:r.xX=false)(h5:r.fM=false->(if a=10 then oct x w else[])=r.rs/\[]=r.ws):r9 N r (ord c a b (i_ x) t.1) d:=
 fA (Q9 (N:=N) hc ht) λt1 t2 _ t4=>zt t1 h0 hx hw (λk wl=>t4 a b _ k wl) kf.1 SU kf.2 (lt_iff hb) ((pL (lt_if ha hb)).trans (congrArg bG h1.symm)) (congrArg bG h2.symm) ((congrArg (·&&_) t2).trans ((gQ _).trans h3)) h4 (λh=>by simpa using h5 h)
theorem JZ{t:Int×bA×Bool×Bool}(hc:(w,c)∈P4)(ht:t∈wH)(ha:a<16)(hb:b<10)(hx:x<512)(hw:w<=x+1):(Fg c t a b x w).Ok N:=
 fA (Q9 (N:=N) hc ht) λt1 _ t3 _=>⟨aU _,λk wl y=>t3 _ _ _ _ _ _,λy=>Fo hc ht ha (j_ hb) hx hw rfl rfl rfl (V1 hb) rfl (λ_=>⟨rfl,rfl⟩),
  ⟨t.2.2.1.casesOn (motive:=λu=>([a,b]++if u then[0]else[]).length<=16) (av rfl) (av rfl),lt_if ha (j_ hb)⟩,lt_iff (j_ hb),λh=>absurd h ay,vA (sy hx hw (rA _ t1).2.2.2.2.1),di⟩
def Sn(base x:Nat):Row:=⟨0,.mB 13 [nI base,.int (i_ x)],λ_=>ord 219 base 10 (i_ x) 160,[base,10],[],[],[],0,true,false⟩
theorem Hf(ha:a<16)(hx:x<512)(hw:8<=x+1):(Sn a x).Ok N:=
 ⟨aU _,λk wl y=>by kernel_rfl,λy=>Fo (t:=(160,aa "xor",false,false)) (w:=8) (b:=10) (aF (i:=0) rfl) (aF (i:=4) rfl) ha (by decide) hx hw rfl rfl rfl rfl rfl (λh=>absurd h.symm ay),⟨av rfl,mi ha (by decide)⟩,eA,λh=>absurd h ay,di,di⟩
end
theorem vz{c a b d:Int}{ru wu:List Nat}(hc:c∈uq)(h6:∀k wl,[207,214,221,235,242,249].map (λf=>au N (k+3) (.obj f) [.fv (ord c a b off fq)] wl)=bD 6 (some (.bool false,wl)))(ht:∀k wl,asked N k wl (ord c a b off fq)=told wl r.w)
 (hd:r.w=1\/r.w=2\/r.w=4->∀k wl,au N (k+10) (.obj 256) [.fv (ord c a b off fq)] wl=some (.int d,wl))(hu:Uses N (ord c a b off fq) ru wu)(l1:ru.length<=16)(l2:wu.length<=16)(s1:∀x∈ru,x<16)(s2:∀x∈wu,x<16)
 (hr:bG ru=bG r.asks)(hl:bG wu=bG r.gv)(lk:decide (10∈ru)=r.fM)(al:nH c=r.xX)(hs:r.fM=false->r.rs=[]/\r.ws=[]):r9 N r (ord c a b off fq) d:=by
 have cl:=rT (N:=N) a b off fq c hc;rw[al]at cl;refine⟨ht,hd,λk wl=>?_,⟨0,0,λk wl=>GS (λk wl=>ag (kA (h6 k wl) 3)) (λk wl=>ag (kA (h6 k wl) 5)) (λk wl=>ag (kA (h6 k wl) 4)),by decide,λh=>?_⟩,λk wl=>lk▸OD (λk wl=>h6 (k+2) wl) hu,cl.1,cl.2⟩
 . exact eL hr<|eL hl<|JS (λk wl=>congrArg (List.take 3) (h6 (k+2) wl)) hu l1 l2 s1 s2
 . exact eW ((hs h).1)<|eW ((hs h).2)<|⟨rfl,rfl⟩
noncomputable def uo:List (Int×bA×Bool×Bool):=[(15,aa "add",false,true),(191,aa "mov",true,true),(175,aa "xor",false,true),(183,aa "mov",true,false)]
noncomputable def XI(t:Int×bA×Bool×Bool)(a b:Nat):List Nat:=(if t.2.2.1 then[]else[a])++if t.2.2.2 then[b]else[]
theorem P5{t:Int×bA×Bool×Bool}(ha:a<16)(hb:b<16):∀x∈XI t a b,x<16:=λx h=>(cq.mp h).elim (t.2.2.1.casesOn (motive:=λu=>x∈(if u then[]else[a])->x<16) (eV ha x) (eA x)) (t.2.2.2.casesOn (motive:=λu=>x∈(if u then[b]else[])->x<16) (eA x) (eV hb x))
theorem Bh:decide (10∈(ae 16).filter λn=>decide (n∈l))=decide (10∈l):=
 decide_eq_decide.mpr (eO.trans ⟨λh=>of_decide_eq_true h.2,λh=>⟨aC.mpr (by decide),decide_eq_true h⟩⟩)
theorem zu{t:Int×bA×Bool×Bool}{d:Int}(ht:t∈uo)(ha:a<16)(hb:b<16)(h0:r.w=0)(h1:bG ((if t.2.2.1 then[]else[a])++if t.2.2.2 then[b]else[])=bG r.asks)(h2:r.gv=[a])(h3:decide (10∈(if t.2.2.1 then[]else[a])++if t.2.2.2 then[b]else[])=r.fM)(h4:r.xX=true)(h5:r.rs=[]/\r.ws=[]):
 r9 N r (ord t.1 a b 0 fq) d:=by
 have g:∀t∈uo,t.1∈Ux/\nH t.1=true/\t.1∈uq:=by decide+kernel
 have f:∀k wl,uo.map (λt=>[207,214,221,235,242,249].map (λf=>au N (k+3) (.obj f) [.fv (ord t.1 a b 0 fq)] wl))=uo.map λ_=>bD 6 (some (.bool false,wl)):=λk wl=>by kernel_rfl
 have u:Uses N (ord t.1 a b 0 fq) ((ae 16).filter λn=>decide (n∈XI t a b)) [a]:=by
  refine Ji (nm:=t.2.1) (λk wl=>?_) (λk wl=>?_) (λk wl=>?_) ?_ ?_ ?_<;>simp only[uo,a6,a8,or_false]at ht<;>rcases ht with rfl|rfl|rfl|rfl<;>kernel_rfl
 exact jN (g t ht) λt1 t2 t3=>vz t3 (λk wl=>a9.mp (f k wl) t ht) (λk wl=>h0▸E5 _ _ _ _ t.1 t1) (λh=>by rw[h0]at h;exact absurd h (by decide)) u kf.1 (av rfl) kf.2 (eV ha) ((pL (P5 ha hb)).trans h1) (congrArg bG h2.symm) (Bh.trans h3) (t2.trans h4.symm) λ_=>h5
def J0(t:Int×bA×Bool×Bool)(a b:Nat):Row:=⟨0,.mB 7 [.str t.2.1,nI a,nI b],λ_=>ord t.1 a b 0 0,if t.2.2.1 then[b]else[a,b],[a],[],[],0,false,true⟩
theorem NT{t:Int×bA×Bool×Bool}(ht:t∈uo.take 3)(ha:a<10)(hb:b<10):(J0 t a b).Ok N:=by
 have h1:t∈uo:=kN ht
 have tw:t.2.2.2=true:=(by decide+kernel:∀t∈uo.take 3,t.2.2.2=true) t ht
 have h2:∀k wl(a b:Nat) z,(uo.take 3).map (λt=>au N (k+10) (.mB 7 [.str t.2.1,nI a,nI b]) [.fv (.int z)] wl)=(uo.take 3).map λt=>some (ord t.1 a b 0 0,wl):=λk wl a b z=>by kernel_rfl
 have e:(if t.2.2.1 then[]else[a])++(if t.2.2.2 then[b]else[])=(J0 t a b).asks:=by
  unfold J0;refine eW tw ?_;induction t.2.2.1 using ax<;>rfl
 have l:∀x∈(J0 t a b).asks,x<10:=t.2.2.1.casesOn (motive:=λu=>∀x∈(if u then[b]else[a,b]),x<10) (λx h=>(a6.mp h).elim (λq=>q▸ha) λh=>aI.mp h▸hb) (λx h=>aI.mp h▸hb);exact⟨aU _,λk wl y=>a9.mp (h2 k wl a b y) t ht,λy=>zu h1 (j_ ha) (j_ hb) rfl (congrArg bG e) rfl (e▸decide_eq_false λh=>b9 _ (l _ h)) rfl ⟨rfl,rfl⟩,
  ⟨t.2.2.1.casesOn (motive:=λu=>(if u then[b]else[a,b]).length<=16) (av rfl) (av rfl),λx h=>j_ (l x h)⟩,eV (j_ ha),λ_=>⟨a,rfl⟩,di,di⟩
def VE(a:Nat):Row:=⟨0,.mB 8 [nI a],λ_=>ord 183 a 0 0 5,[],[a],[],[],0,false,true⟩
theorem JU(ha:a<10):(VE a).Ok N:=
 ⟨aU _,λk wl y=>by kernel_rfl,λy=>zu (t:=(183,aa "mov",true,false)) (b:=0) (aF (i:=3) rfl) (j_ ha) (by decide) rfl rfl rfl rfl rfl ⟨rfl,rfl⟩,⟨aU _,eA⟩,eV (j_ ha),λ_=>⟨a,rfl⟩,di,di⟩
def VG(a:Nat):Row:=⟨0,.mB 18 [nI a],λ_=>ord 15 a 10 0 0,[a,10],[a],[],[],0,true,true⟩
theorem J1(ha:a<10):(VG a).Ok N:=
 ⟨aU _,λk wl y=>by kernel_rfl,λy=>zu (t:=(15,aa "add",false,true)) (b:=10) (aF (i:=0) rfl) (j_ ha) (by decide) rfl rfl rfl (decide_eq_true (.tail _ (.head _))) rfl ⟨rfl,rfl⟩,⟨av rfl,mi (j_ ha) (by decide)⟩,eV (j_ ha),λ_=>⟨a,rfl⟩,di,di⟩
def VD(a:Nat):Row:=⟨0,.mB 12 [nI a],λ_=>ord 191 a 10 0 0,[10],[a],[],[],0,true,true⟩
theorem JT(ha:a<10):(VD a).Ok N:=
 ⟨aU _,λk wl y=>by kernel_rfl,λy=>zu (t:=(191,aa "mov",true,true)) (b:=10) (aF (i:=1) rfl) (j_ ha) (by decide) rfl rfl rfl rfl rfl ⟨rfl,rfl⟩,⟨av rfl,eV (by decide)⟩,eV (j_ ha),λ_=>⟨a,rfl⟩,di,di⟩
theorem LW(a b off fq:Int):∀c∈Gk,c∈uq/\nH c=false/\(∀k wl,[207,214,221,235,242,249].map (λf=>au N (k+3) (.obj f) [.fv (ord c a b off fq)] wl)=bD 6 (some (.bool false,wl)))/\∀k wl,au N (k+10) (.obj 256) [.fv (ord c a b off fq)] wl=some (.int off,wl):=λc hc=>by
 have h1:∀k wl,Gk.map (λc=>[207,214,221,235,242,249].map (λf=>au N (k+3) (.obj f) [.fv (ord c a b off fq)] wl))=Gk.map λc=>bD 6 (some (.bool false,wl)):=λk wl=>by kernel_rfl
 have h2:∀k wl,Gk.map (λc=>au N (k+10) (.obj 256) [.fv (ord c a b off fq)] wl)=Gk.map λc=>some (.int off,wl):=λk wl=>by kernel_rfl
 have h3:∀c∈Gk,c∈uq/\nH c=false:=by decide+kernel
 exact⟨(h3 c hc).1,(h3 c hc).2,λk wl=>a9.mp (h1 k wl) c hc,λk wl=>a9.mp (h2 k wl) c hc⟩
theorem Dq{c d:Int}(hc:c∈([109,61,173]:List Int))(ha:a<16)(hb:b<16)(h0:r.w=1)(h1:bG [a,b]=bG r.asks)(h2:r.gv=[])(h3:decide (10∈[a,b])=r.fM)(h4:r.xX=false)(h5:r.rs=[]/\r.ws=[]):r9 N r (ord c a b d 0) d:=by
 have WY:c∈Gk:=(by decide:∀c∈([109,61,173]:List Int),c∈Gk) c hc
 (refine fA (LW (N:=N) a b d 0 c WY) λt1 t2 t3 t4=>?_)
 refine vz t1 t3 (λk wl=>h0▸E6 _ _ _ _ c WY) (λ_=>t4) (Ni (λk wl=>?_) (λk wl=>?_)) kf.1 (aU _) kf.2 eA ((pL (mi ha hb)).trans h1) (congrArg bG h2.symm) (Bh.trans h3) (t2.trans h4.symm) λ_=>h5
 . simp only[a6,a8,or_false]at hc
   rcases hc with rfl|rfl|rfl<;>kernel_rfl
 . simp only[a6,a8,or_false]at hc
   rcases hc with rfl|rfl|rfl<;>kernel_rfl
theorem Dr{c d:Int}(hc:c∈([69,85,21]:List Int))(ha:a<16)(h0:r.w=1)(h1:r.asks=[a])(h2:r.gv=[])(h3:decide (10∈[a])=r.fM)(h4:r.xX=false)(h5:r.rs=[]/\r.ws=[]):r9 N r (ord c a 0 d fq) d:=by
 have WY:c∈Gk:=(by decide:∀c∈([69,85,21]:List Int),c∈Gk) c hc
 (refine fA (LW (N:=N) a 0 d fq c WY) λt1 t2 t3 t4=>?_)
 refine vz t1 t3 (λk wl=>h0▸E6 _ _ _ _ c WY) (λ_=>t4) (ru:=[a]) (wu:=[]) (λk wl=>?_) (av rfl) (aU _) (eV ha) eA (congrArg bG h1.symm) (congrArg bG h2.symm) h3 (t2.trans h4.symm) λ_=>h5;simp only[a6,a8,or_false]at hc;rcases hc with rfl|rfl|rfl<;>kernel_rfl
def Zw(a b jW:Nat):Row:=⟨1,.mB 10 [nI a,nI b],λd=>ord 109 a b d 0,[a,b],[],[],[],jW,false,false⟩
theorem NO(ha:a<10)(hb:b<10):(Zw a b jW).Ok N:=
 ⟨av rfl,λk wl y=>by kernel_rfl,λy=>Dq (.head _) (j_ ha) (j_ hb) rfl rfl rfl (decide_eq_false λh=>(a6.mp h).elim (λe=>b9 10 (e.symm▸ha)) λh=>b9 10 (aI.mp h▸hb)) rfl ⟨rfl,rfl⟩,⟨av rfl,mi (j_ ha) (j_ hb)⟩,eA,λh=>absurd h ay,di,di⟩
def Sk(a jW:Nat):Row:=⟨1,.mB 17 [nI a],λd=>ord 61 10 a d 0,[a,10],[],[],[],jW,true,false⟩
theorem NS(ha:a<10):(Sk a jW).Ok N:=
 ⟨av rfl,λk wl y=>by kernel_rfl,λy=>Dq (a:=10) (by decide) (by decide) (by lia) rfl (sE λt=>by simp[Sk,or_comm]) rfl (by simp[Sk]) rfl ⟨rfl,rfl⟩,⟨av rfl,mi (j_ ha) (by decide)⟩,eA,λh=>absurd h ay,di,di⟩
def VF(a jW:Nat):Row:=⟨1,.mB 16 [nI a],λd=>ord 173 a 10 d 0,[a,10],[],[],[],jW,true,false⟩
theorem NR(ha:a<10):(VF a jW).Ok N:=
 ⟨av rfl,λk wl y=>by kernel_rfl,λy=>Dq (b:=10) (by decide) (by lia) (by decide) rfl rfl rfl (by simp[VF]) rfl ⟨rfl,rfl⟩,⟨av rfl,mi (j_ ha) (by decide)⟩,eA,λh=>absurd h ay,di,di⟩
def Zx(a jW:Nat):Row:=⟨1,.mB 9 [nI a],λd=>ord 69 a 0 d 6,[a],[],[],[],jW,false,false⟩
theorem NP(ha:a<10):(Zx a jW).Ok N:=
 ⟨av rfl,λk wl y=>by kernel_rfl,λy=>Dr (.head _) (j_ ha) rfl rfl rfl (decide_eq_false λh=>b9 10 (aI.mp h▸ha)) rfl ⟨rfl,rfl⟩,⟨av rfl,eV (j_ ha)⟩,eA,λh=>absurd h ay,di,di⟩
def Zy(jW:Nat):Row:=⟨1,.mB 15 [],λd=>ord 85 10 0 d 1,[10],[],[],[],jW,true,false⟩
theorem NQ:(Zy jW).Ok N:=
 ⟨av rfl,λk wl y=>by kernel_rfl,λy=>Dr (a:=10) (by decide) (by decide) rfl rfl rfl rfl rfl ⟨rfl,rfl⟩,⟨av rfl,eV (by decide)⟩,eA,λh=>absurd h ay,di,di⟩
def Sm(jW:Nat):Row:=⟨1,.mB 20 [],λd=>ord 21 6 0 d 0,[6],[],[],[],jW,false,false⟩
theorem Sl:(Sm jW).Ok N:=
 ⟨av rfl,λk wl y=>by kernel_rfl,λy=>Dr (a:=6) (by decide) (by decide) rfl rfl rfl rfl rfl ⟨rfl,rfl⟩,⟨av rfl,eV (by decide)⟩,eA,λh=>absurd h ay,di,di⟩
def Ff(HU:Bool)(jW:Nat):Row:=⟨2,if HU then .obj 354 else .obj 347,λd=>if HU then ord 6 0 0 0 d else ord 5 0 0 d 0,[],[],[],[],jW,false,false⟩
theorem JW{HU:Bool}:(Ff HU jW).Ok N:=by
 refine⟨av rfl,λk wl y=>by induction HU using ax<;>kernel_rfl,λy=>?_,⟨aU _,eA⟩,eA,λh=>absurd h ay,di,di⟩;induction HU using ax with
 |true=>exact vz (c:=6) (ru:=[]) (wu:=[]) (by decide) (λk wl=>by kernel_rfl) (λk wl=>RO _ _ _ _) (λ_ k wl=>by kernel_rfl) (λk wl=>by kernel_rfl) (aU _) (aU _) eA eA rfl rfl rfl rfl λ_=>⟨rfl,rfl⟩
 |false=>exact vz (c:=5) (ru:=[]) (wu:=[]) (by decide) (λk wl=>by kernel_rfl) (λk wl=>RP _ _ _ _) (λ_ k wl=>by kernel_rfl) (λk wl=>by kernel_rfl) (aU _) (aU _) eA eA rfl rfl rfl rfl λ_=>⟨rfl,rfl⟩
def oR:Row:=⟨3,.mB 19 [],λ_=>ord 149 0 0 0 0,[0],[],[],[],0,false,false⟩
theorem JX:oR.Ok N:=by
 refine⟨by decide,λk wl y=>by kernel_rfl,λy=>?_,⟨av rfl,eV (by decide)⟩,eA,λh=>absurd h ay,di,di⟩
 have cl:=rT (N:=N) 0 0 0 0 149 (by decide);exact⟨λk wl=>GI _ _ _ _,λh=>absurd h (by decide),λk wl=>by kernel_rfl,⟨0,0,λk wl=>by kernel_rfl,by decide,λ_=>⟨rfl,rfl⟩⟩,λk wl=>by kernel_rfl,cl.1,cl.2⟩
def Dg:Row:=⟨4,.obj 426,λd=>ord 133 0 1 0 d,[1,2,3,4,5],[0,1,2,3,4,5],[],[],0,false,false⟩
theorem He:Dg.Ok N:=by
 refine⟨by decide,λk wl y=>by kernel_rfl,λy=>?_,⟨av rfl,by decide+kernel⟩,by decide+kernel,λh=>absurd h ay,di,di⟩
 have cl:=rT (N:=N) 0 1 0 y 133 (by decide);exact⟨λk wl=>CV _ _,λ_ k wl=>by kernel_rfl,λk wl=>by kernel_rfl,⟨0,0,λk wl=>by kernel_rfl,by decide,λ_=>⟨rfl,rfl⟩⟩,λk wl=>by kernel_rfl,cl.1,cl.2⟩
noncomputable def n6:List (Nat×Nat):=[(7,0),(87,3),(2,4),(132,2),(131,3),(89,2)]
def qp(t:Nat×Nat):Row:=⟨0,.mB 11 [nI t.1],λ_=>ord 133 0 0 0 t.1,(ae t.2).map (1+·),[0,1,2,3,4,5],[],[],0,false,false⟩
theorem JY{t:Nat×Nat}(ht:t∈n6):(qp t).Ok N:=by
 have cl:=λy=>rT (N:=N) 0 0 0 y 133 (by decide)
 have f:∀t∈n6,(qp t).asks.length<=16/\∀x∈(qp t).asks,x<16:=by decide+kernel
 have e1:∀k wl y,n6.map (λt=>au N (k+10) (qp t).f [.fv (.int y)] wl)=n6.map λt=>some ((qp t).md y,wl):=λk wl y=>by kernel_rfl
 have e2:∀k wl(y:Int),n6.map (λt=>au N (k+10) (.obj 597) [.fv ((qp t).md y)] wl)=n6.map λt=>some (.tup [nI (bG (qp t).asks),nI (bG (qp t).gv)],wl):=λk wl y=>by kernel_rfl
 have e3:∀k wl(y:Int),n6.map (λt=>au N (k+10) (.obj 630) [.fv ((qp t).md y)] wl)=n6.map λ_=>some (.tup [nI 0,nI 0],wl):=λk wl y=>by kernel_rfl
 have e4:∀k wl(y:Int),n6.map (λt=>au N (k+10) (.obj 637) [.fv ((qp t).md y)] wl)=n6.map λ_=>some (.bool false,wl):=λk wl y=>by kernel_rfl
 exact⟨aU _,λk wl y=>a9.mp (e1 k wl y) t ht,λy=>⟨λk wl=>GJ _ _,λh=>absurd h (by decide:¬((0:Nat)=1\/(0:Nat)=2\/(0:Nat)=4)),λk wl=>a9.mp (e2 k wl y) t ht,⟨0,0,λk wl=>a9.mp (e3 k wl y) t ht,by decide,λ_=>⟨rfl,rfl⟩⟩,λk wl=>a9.mp (e4 k wl y) t ht,(cl _).1,(cl _).2⟩,f t ht,(by decide:∀x∈[0,1,2,3,4,5],x<16),λh=>absurd h ay,di,di⟩
def W(c:Nat)(wl:WL):Prop:=∃a b:Nat,wl=some [nI a,nI b]/\b<=c
theorem W.le{d:Nat}(h:W c wl)(q:c<=d):W d wl:=by(refine gg h ?_;clear h;intro a b e hb);exact⟨a,b,e,ak hb q⟩
theorem ED{i:IE}{n:Nat}(h:ev C e fr wl=some (.fv d,w1))(ho:fr[j]?=some (.val .well))(h2:ev C i fr w1=some (.fv (nI n),some xs))(hk:n<xs.length/\n<100):
 ex C N (.fW (.v j) i e) (fr,wl)=some (.next,fr,some (xs.set n d)):=by
 show(ev C e fr wl).bind _=_;refine eW h<|eW (bK ..) ?_;dsimp only;refine eW ho ?_
 show(ev C i fr w1).bind _=_;refine eW h2<|eW (bK ..) ?_
 show(if 0<=(n:Int)/\(n:Int).toNat<xs.length/\(n:Int)<2^62 then some (Fl.next,fr,some (xs.set (n:Int).toNat d))else ab)=_;rw[if_pos ⟨bJ n,by exact eW (cI ..)<|hk.1,by lia⟩,cI]
theorem Dv{m:Nat}(h:0<m):i7 .Mod (.fv (nI a)) (.fv (nI m))=some (.fv (nI (a%m))):=by
 show(if(m:Int)≠0 then some (Int.fmod (a:Int) (m:Int))else ab).map (λr=>EV.fv (.int r))=_;rw[if_pos (by lia),Int.fmod_eq_emod_of_nonneg _ (by lia)];rfl
theorem Ee{m:Nat}(h:0<m)(h2:m<2^128):i7 .FloorDiv (.fv (nI a)) (.fv (nI m))=some (.fv (nI (a/m))):=by
 show(if(m:Int)≠0/\(m:Int).natAbs<2^128 then some (Al (a:Int) (m:Int))else ab).map (λr=>EV.fv (.int r))=_;rw[if_pos ⟨by lia,h2⟩,fk _ (by lia)];rfl
theorem Sp(h:b<=1000000):i7 .Pow (.fv (.int 1000003)) (.fv (nI b))=some (.fv (nI (1000003^b))):=by
 show(if 0<=(b:Int)/\((dw 1000003:Nat):Int)*(b:Int)<=2^27 then some ((1000003:Int)^(b:Int).toNat)else ab).map (λr=>EV.fv (.int r))=_;rw[show dw 1000003=20 by decide+kernel,if_pos ⟨by lia,by lia⟩,cI];exact congrArg (λz=>some (EV.fv (.int z))) (yb 1000003 b).symm
theorem s_{n m:Nat}(h:c<=a)(e:rh (a+n) m=true):c+n<=m:=ak (iq h n) (av e)
theorem ce{n m:Nat}(e:rh n m=true):c+n<=c+m:=ct (av e) c
theorem dj{m:Nat}(h:W c wl)(hc:c<=900000)(hm:0<m)(hm2:m<2^128):∃f w',f<m/\W (c+1) w'/\∀k,au N (k+1) (.obj 678) [.fv .well,.fv (nI m)] wl=some (nI f,w'):=by
 (refine gg h ?_;clear h;intro a b q1;subst q1;intro hb)
 have rest:∀(a' b' k:Nat),hU (au N k) N (.cons (.assign 2 (.bin .Mod (.idx (.var 0) (.lit (.int 0))) (.var 1))) (.cons (.fW (.v 0) (.lit (.int 0)) (.bin .FloorDiv (.idx (.var 0) (.lit (.int 0))) (.var 1))) (.cons (.ret (.var 2)) .nil))) ([.val .well,.val (nI m),.unset],some [nI a',nI b'])=
  some (.ret (nI (a'%m)),[.val .well,.val (nI m),.val (nI (a'%m))],some [nI (a'/m),nI b']):=λa' b' k=>
  ao (aZ (dh rfl rfl (Dv hm)) rfl)<|ao (ED (n:=0) (xs:=[nI a',nI b']) (dh rfl rfl (Ee hm hm2)) rfl rfl ⟨by simp,by decide⟩)<|br (bZ rfl)
 by_cases h0:a=0
 . subst h0
   refine⟨1000003^(7+(b+1))%m,some [nI (1000003^(7+(b+1))/m),nI (b+1)],pg _ hm,⟨_,_,rfl,cB hb⟩,λk=>cM rfl ?_⟩;exact bt rfl rfl<|ao (cz (gJ rfl rfl rfl) (ao (ED (n:=1) (xs:=[nI 0,nI b]) (d:=nI (b+1)) (dh rfl rfl rfl) rfl rfl ⟨by simp,by decide⟩)<|ao (ED (n:=0) (xs:=[nI 0,nI (b+1)]) (dh rfl (dh (y:=.fv (nI (b+1))) (r:=.fv (nI (7+(b+1)))) rfl rfl rfl) (Sp (by lia))) rfl rfl ⟨by simp,by decide⟩) aY)) (rest _ _ _)
 . refine⟨a%m,some [nI (a/m),nI b],pg _ hm,⟨_,_,rfl,jZ hb⟩,λk=>cM rfl ?_⟩
   exact bt rfl rfl<|ao (bl (gJ (x:=a) (y:=0) (by rw[beq_eq_false_iff_ne];lia) rfl rfl) aY) (rest _ _ _)
theorem call_of(h:W c wl)(hc:c<=900000)(h0:0<xs.length)(h1:xs.length<1000):∃d w',d∈xs/\W (c+1) w'/\∀k,au N (k+2) (.obj 685) [.fv .well,.fv (.tup xs)] wl=some (d,w'):=by
 (refine cO (dj (N:=N) h hc h0 (dk h1 (by decide))) λf w' hf hw e=>?_)
 refine⟨xs[f],w',M3 hf,hw,λk=>cM rfl ?_⟩;refine bt rfl rfl<|br<|bZ<|de rfl (aG (ah rfl (ah (cK (r:=.fv (nI xs.length)) (ah rfl aE) ?_) aE)) (e k)) ?_
 . exact Wb (ak (bW h1) (by decide))
 . exact Wv.trans (Di (aV hf) (dk (dk hf h1) (by decide)))
noncomputable def Ze(w:Nat)(s:Int):Int:=if(24:Int)-w<s then 24-(w:Int)else s
def RE(h w:Nat)(s:Int):Nat:=(8*h+23-Ze w s).toNat
theorem N':((ae 62).all λh=>(ae 9).all λw=>(ae 17).all λ(s:Nat)=>decide (RE h w s<512/\w<=RE h w s+1/\Ze w s-8*h-24=i_ (RE h w s)))=true:=by kernel_rfl
theorem Ds{h w:Nat}{s:Int}(hh:h<62)(hw:w<=8)(h1:0<=s)(h2:s<=16):RE h w s<512/\w<=RE h w s+1/\Ze w s-8*h-24=i_ (RE h w s):=
 xE (gn h1) λn e=>by
  subst e;exact of_decide_eq_true (aH.mp (aH.mp (aH.mp N' h (aC.mpr hh)) w (aC.mpr (dZ hw))) n (aC.mpr (dZ (uA.mp h2))))
theorem Ca{h w:Nat}(hW:W c wl)(hc:c<=900000)(hh:h<62)(hw:0<w)(MN:w<=8):∃x w',x<512/\w<=x+1/\W (c+1) w'/\∀k,au N (k+3) (.obj 692) [.fv .well,.fv (nI h),.fv (nI w)] wl=some (.int (i_ x),w'):=by
 (refine cO (call_of (N:=N) (xs:=[.int 4,.int 8,.int 0,.int 12,.int 16,.int 7,.int 8,.int 1,.int 13,.int 0,.int (-512),.int (-1)]) hW hc (by decide) (by decide)) λd w' hd QR e=>?_)
 have hs:∃s:Int,d=.int s/\(s= -512\/s= -1\/(0<=s/\s<=16)):=by
  simp only[a6,a8,or_false]at hd;rcases hd with rfl|rfl|rfl|rfl|rfl|rfl|rfl|rfl|rfl|rfl|rfl|rfl<;>exact⟨_,rfl,by decide⟩
 (refine bS hs ?_;clear hs;intro s q2;subst q2;intro hs)
 rcases hs with rfl|rfl|⟨h1,h2⟩
 . exact⟨511,w',by decide,ak MN (by decide),QR,λk=>cM rfl<|bt rfl rfl<|ao (aZ (aG (ah rfl (ah rfl aE)) (e k)) rfl)<|br (cz (gJ rfl rfl rfl) (br (bZ rfl)))⟩
 . refine⟨w-1,w',aQ (pf _ _) (aQ MN (by decide)),bh (mz hw).symm,QR,λk=>cM rfl<|bt rfl rfl<|ao (aZ (aG (ah rfl (ah rfl aE)) (e k)) rfl)<|ao (bl (gJ rfl rfl rfl) aY)<|br (bZ (qW (tr rfl rfl rfl) ?_))⟩
   show some (EV.fv (.int (-(w:Int))),w')=_;rw[show i_ (w-1)= -(w:Int)by unfold i_;lia]
 . refine⟨RE h w s,w',(Ds hh MN h1 h2).1,(Ds hh MN h1 h2).2.1,QR,λk=>cM rfl<|bt rfl rfl<|ao (aZ (aG (ah rfl (ah rfl aE)) (e k)) rfl)<|ao (bl (gJ (x:=s) (y:= -512) (by rw[beq_eq_false_iff_ne];exactλc=>absurd (c▸h1) (by decide)) rfl rfl) aY)<|br (bZ (pA (tr (x:=s) (y:=0) (decide_eq_false (pq.mpr h1)) rfl rfl) ?_))⟩
   have m:i7 .Mult (.fv (.int 8)) (.fv (nI h))=some (.fv (.int (8*(h:Int)))):=rfl;refine(dh (dh rfl (dh rfl rfl m) rfl) rfl rfl).trans ?_
   show some (EV.fv (.int ((if(24:Int)-w<s then 24-(w:Int)else s)-8*h-24)),w')=_;exact congrArg (λz=>some (EV.fv (.int z),w')) (Ds hh MN h1 h2).2.2
theorem Jq(x w:Nat):((oct x w).map FV.int).take 4=(oct x (min w 4)).map FV.int:=by
 unfold oct;exact eL Aw<|eL Aw<|eW List.take_range<|eW (Nat.min_comm ..) rfl
theorem uD{w:Nat}(h:w=8\/w=4\/w=2\/w=1):0<w/\w<=8:=by rcases h with q|q|q|q<;>refine eW q ?_<;>decide
theorem FD(C:my)(h:ev C e fr wl=some (.fv d,wl))(hi:items (.fv d)=some vs):ev C (.bj .list false (.cons e .nil)) fr wl=some (.fv (.list vs),wl):=by
 refine cK (ah h aE) ?_
 show(listItems (.fv d)).map _=_;rw[show listItems (.fv d)=items (.fv d)by induction d using FV.casesOn<;>rfl,hi];rfl
noncomputable def bodyOf(f:bw):IB:=match f.body with
 |.stmts b=>b
 |.expr _=>.nil
noncomputable def lZ:Nat->IB->IB
 |0,b=>b
 |n+1,.cons _ r=>lZ n r
 |_+1,.nil=>.nil
theorem Q_{a b:IE}{x y:Nat}(h1:ev C a fr wl=some (.fv (nI x),wl))(h2:ev C b fr wl=some (.fv (nI y),wl)):eK C (.cmp .Eq a b) fr wl=some (decide (x=y),wl):=gJ (by rw[cT,beq_iff_eq,decide_eq_true_iff];exact jf) h1 h2
theorem Gr{a b:IE}{x y:Nat}(h1:ev C a fr wl=some (.fv (nI x),wl))(h2:ev C b fr wl=some (.fv (nI y),wl)):eK C (.cmp .Lt a b) fr wl=some (decide (x<y),wl):=tr (decide_eq_decide.mpr dn) h1 h2
abbrev xC(b x w:Nat):List Int:=if b=10 then oct x w else[]
def TFr(h way b one w x:Nat)(s8 s9 Sf:Slot):List Slot:=[.val .well,.val (nI h),.val (nI way),.val (nI b),.val (nI one),.val (nI w),.val (.int (i_ x)),.val (.list ((xC b x w).map .int)),s8,s9,Sf]
def T6(N c:Nat)(wl:WL)(h way b one w x:Nat):Prop:=∃r w',Row.Ok N r/\r.fM=false/\r.w=0/\W c w'/\∃cJ,∀k,hU (au N (k+3)) N (lZ 4 (bodyOf rK)) (TFr h way b one w x .unset .unset .unset,wl)=some (.ret r.fv,cJ,w')
section
variable {h way one w x:Nat}(hW:W c wl)(ja:one<10)(hb:b<16)(hx:x<512)(sf:w<=x+1)(hw:w=8\/w=4\/w=2\/w=1)
include hW ja hb hx sf hw
theorem four{l:List (Nat×Int)}(h:∃a b c d,l=[(8,a),(4,b),(2,c),(1,d)]):∃cd,(w,cd)∈l:=jE h λa b c d e=>e▸hw.elim (λq=>⟨a,q▸.head _⟩) λhw=>hw.elim (λq=>⟨b,q▸.tail _ (.head _)⟩) λhw=>hw.elim (λq=>⟨c,q▸.tail _ (.tail _ (.head _))⟩) λq=>⟨d,q▸.tail _ (.tail _ (.tail _ (.head _)))⟩
theorem Jo(h1:way<2):T6 N c wl h way b one w x:=xE (four hW ja hb hx sf hw (l:=ldC false) ⟨_,_,_,_,rfl⟩) λcd CC=>
 ⟨_,_,A_ CC ja hb hx sf,rfl,rfl,hW,_,λk=>br (cz (tr (x:=way) (y:=2) (decide_eq_true (dn.mpr h1)) rfl rfl) (ao rfl (br (bZ rfl))))⟩
theorem Jl:T6 N c wl h 2 b one w x:=xE (four hW ja hb hx sf hw (l:=ldC true) ⟨_,_,_,_,rfl⟩) λcd CC=>by
 have es:∀(C:my)(fr:List Slot),ev C (.var 7) fr wl=some (.fv (.list ((xC b x w).map .int)),wl)->ev C (.xy (.var 7) (.lit .none) (.lit (.int 4))) fr wl=some (.fv (.list ((xC b x (min w 4)).map .int)),wl):=λC fr v=>by
  refine MG v rfl rfl ?_
  show(if cg ((xC b x w).map FV.int).length=true then some (EV.fv (.list (((xC b x w).map FV.int).take 4)))else ab)=_;rw[if_pos (show cg _=true from decide_eq_true (by rw[aj];exact ll (vA (p:=b=10) (sy hx sf (uD hw).2)).1 rfl))];unfold xC;split
  . exact eW (Jq ..) rfl
  . rfl
 exact⟨_,_,A_ CC ja hb hx sf,rfl,rfl,hW,_,λk=>ao (bl (tr rfl rfl rfl) aY) (br (cz (gJ rfl rfl rfl) (ao rfl (br (bZ (iF (ah rfl (ah rfl (ah rfl (ah rfl (ah (es _ _ rfl) (ah rfl (ah rfl aE))))))) (by rfl)))))))⟩
theorem Jm(h1:2<way)(h2:way<5):T6 N c wl h way b one w x:=xE (four hW ja hb hx sf hw (l:=stC) ⟨_,_,_,_,rfl⟩) λcd CC=>
 ⟨_,_,Hd CC hb ja hx sf,rfl,rfl,hW,_,λk=>ao (bl (tr (x:=way) (y:=2) (decide_eq_false (by lia)) rfl rfl) aY)<|ao (bl (gJ (x:=way) (y:=2) (by rw[beq_eq_false_iff_ne];lia) rfl rfl) aY)<|br (cz (tr (x:=way) (y:=5) (decide_eq_true (dn.mpr h2)) rfl rfl) (ao rfl (br (bZ rfl))))⟩
theorem Jn:T6 N c wl h 5 b one w x:=xE (four hW ja hb hx sf hw (l:=Ut) ⟨_,_,_,_,rfl⟩) λcd CC=>
 ⟨_,_,Df CC hb hx sf,rfl,rfl,hW,[.val .well,.val (nI h),.val (nI 5),.ro (nI b),.val (nI one),.ro (nI w),.ro (.int (i_ x)),.val (.list ((xC b x w).map .int)),.unset,.unset,.unset],λk=>rfl⟩
theorem rp{w6:WL}{cd:Int}{t:Int×bA×Bool×Bool}{m:Int}(h1:5<way)(CC:(w,cd)∈P4)(W6:W c w6)(e6:∀k,au N (k+2) (.obj 685) [.fv .well,.fv (.tup [.tup [.str (aa "add"),.int (-1)],.tup [.str (aa "fetch_or"),nI one],.tup [.str (aa "cmpxchg"),.int 0],.tup [.str (aa "xchg"),nI one]])] wl=some (.tup [.str t.2.1,.int m],w6))(ht:t∈wH)
 (ha:∀C,ev C (.ite (.cmp .Eq (.var 8) (.lit (.str (aa "cmpxchg")))) (.lst false (.cons (.var 3) (.cons (.var 4) (.cons (.lit (.int 0)) .nil)))) (.lst false (.cons (.var 3) (.cons (.var 4) .nil)))) (TFr h way b one w x (.val (.str t.2.1)) (.val (.int m)) .unset) w6=some (.fv (nL (Fg cd t b one x w).asks),w6))
 (hl:∀C fr,ev C (.var 9) fr w6=some (.fv (.int m),w6)->ev C (.ite (.cmp .Lt (.var 9) (.lit (.int 0))) (.lst false .nil) (.lst false (.cons (.var 9) .nil))) fr w6=some (.fv (nL (Fg cd t b one x w).gv),w6)):T6 N c wl h way b one w x:=by
 refine⟨_,_,JZ CC ht hb ja hx sf,rfl,rfl,W6,[.val .well,.val (nI h),.val (nI way),.ro (nI b),.ro (nI one),.ro (nI w),.ro (.int (i_ x)),.val (.list ((xC b x w).map .int)),.ro (.str t.2.1),.val (.int m),.val (nL (Fg cd t b one x w).asks)],λk=>ao (bl (tr (x:=way) (y:=2) (decide_eq_false (by lia)) rfl rfl) aY)<|ao (bl (gJ (x:=way) (y:=2) (by rw[beq_eq_false_iff_ne];lia) rfl rfl) aY)<|ao (bl (tr (x:=way) (y:=5) (decide_eq_false (by lia)) rfl rfl) aY)<|ao (bl (gJ (x:=way) (y:=5) (by rw[beq_eq_false_iff_ne];lia) rfl rfl) aY)<|
  ao (xb (aG (ah rfl (ah rfl aE)) (e6 _)) rfl)<|ao (aZ (ha _) rfl)<|ao rfl<|br (bZ ?_)⟩
 exact iF (ah rfl (ah rfl (ah rfl (ah (hl _ _ rfl) (ah rfl (ah rfl (ah rfl aE))))))) (by rfl)
omit hW ja hb hx sf hw in
theorem uK{m:Int}{q:Bool}(hq:decide (m<0)=q)(v:ev C (.var 9) fr wl=some (.fv (.int m),wl)):ev C (.ite (.cmp .Lt (.var 9) (.lit (.int 0))) (.lst false .nil) (.lst false (.cons (.var 9) .nil))) fr wl=some (.fv (.list (if q then[]else[.int m])),wl):=
 q.casesOn (motive:=λq=>decide (m<0)=q->ev C (.ite (.cmp .Lt (.var 9) (.lit (.int 0))) (.lst false .nil) (.lst false (.cons (.var 9) .nil))) fr wl=some (.fv (.list (if q then[]else[.int m])),wl)) (λhq=>pA (tr hq v rfl) (y6 (own:=false) (ah v aE) rfl)) (λhq=>qW (tr hq v rfl) rfl) hq
theorem Jp(h1:5<way)(ZY:w=8\/w=4)(hc:c<=900000):T6 N (c+1) wl h way b one w x:=by
 have CC:∃cd,(w,cd)∈P4:=ZY.elim (λq=>⟨219,q▸.head _⟩) λq=>⟨195,q▸.tail _ (.head _)⟩
 have hn:decide ((one:Int)<0)=false:=decide_eq_false (pq.mpr (bJ one));refine xE CC λcd CC=>cO (call_of (N:=N) (xs:=[.tup [.str (aa "add"),.int (-1)],.tup [.str (aa "fetch_or"),nI one],.tup [.str (aa "cmpxchg"),.int 0],.tup [.str (aa "xchg"),nI one]]) hW hc (av rfl) (av rfl)) λd w6 hd W6 e6=>?_
 have QR:=hW.le (ip c);refine(a6.mp hd).elim (λe=>?_) λhd=>(a6.mp hd).elim (λe=>?_) λhd=>(a6.mp hd).elim (λe=>?_) λhd=>?_
 . subst e;exact rp QR ja hb hx sf hw (t:=(0,aa "add",false,false)) (m:= -1) h1 CC W6 e6 (aF (i:=0) rfl) (λC=>rfl) λC fr h=>uK (q:=true) rfl h
 . subst e;exact rp QR ja hb hx sf hw (t:=(65,aa "fetch_or",false,true)) (m:=one) h1 CC W6 e6 (aF (i:=1) rfl) (λC=>rfl) λC fr h=>uK (q:=false) hn h
 . subst e;exact rp QR ja hb hx sf hw (t:=(241,aa "cmpxchg",true,false)) (m:=0) h1 CC W6 e6 (aF (i:=2) rfl) (λC=>rfl) λC fr h=>uK (q:=false) rfl h
 . have e:=aI.mp hd
   subst e;exact rp QR ja hb hx sf hw (t:=(225,aa "xchg",false,true)) (m:=one) h1 CC W6 e6 (aF (i:=3) rfl) (λC=>rfl) λC fr h=>uK (q:=false) hn h
end
theorem Nm{way w0:Nat}(HO:w0=8\/w0=4\/w0=2\/w0=1):∃w:Nat,(w=8\/w=4\/w=2\/w=1)/\(5<way->w=8\/w=4)/\∀C h b one wl,ex C N (.ite (.cmp .Gt (.var 2) (.lit (.int 5))) (.cons (.assign 5 (.bj .max false (.cons (.var 5) (.cons (.lit (.int 4)) .nil)))) .nil) .nil) ([.val .well,.val (nI h),.val (nI way),.val (nI b),.val (nI one),.val (nI w0),.unset,.unset,.unset,.unset,.unset],wl)=
 some (.next,[.val .well,.val (nI h),.val (nI way),.val (nI b),.val (nI one),.val (nI w),.unset,.unset,.unset,.unset,.unset],wl):=by
 by_cases h5:5<way
 . refine⟨if w0<4 then 4 else w0,?_,λ_=>?_,λC h b one wl=>cz (Io (x:=way) (y:=5) (decide_eq_true (dn.mpr h5)) rfl rfl) ?_⟩<;>rcases HO with rfl|rfl|rfl|rfl<;>first|rfl|decide
 . exact⟨w0,HO,λq=>absurd q h5,λC h b one wl=>bl (Io (x:=way) (y:=5) (decide_eq_false λq=>h5 (dn.mp q)) rfl rfl) aY⟩
theorem Em{h:Nat}(hW:W c wl)(hc:c<=800000)(hh:h<62):∃r w',Row.Ok N r/\r.fM=false/\r.w=0/\W (c+10) w'/\∀k,au N (k+4) (.obj 699) [.fv .well,.fv (nI h)] wl=some (r.fv,w'):=
 cO (dj (N:=N) (m:=8) hW (s_ (c:=c) (n:=0) hc rfl) (by decide) (by decide)) λway w1 O6 W1 e1=>
 cO (call_of (N:=N) (xs:=[.int 10,.int 10,.int 7,.int 10]) W1 (s_ (c:=c) (n:=1) hc rfl) (by decide) (by decide)) λd2 w2 hd2 W2 e2=>
 cO (dj (N:=N) (m:=10) W2 (s_ (c:=c) (n:=2) hc rfl) (by decide) (by decide)) λone w3 ja W3 e3=>
 cO (call_of (N:=N) (xs:=[.int 8,.int 4,.int 8,.int 2,.int 1]) W3 (s_ (c:=c) (n:=3) hc rfl) (by decide) (by decide)) λd4 w4 hd4 W4 e4=>
 bS (bO.mp (show d2∈[10,10,7,10].map nI from hd2)) λb hb q2=>bS (bO.mp (show d4∈[8,4,8,2,1].map nI from hd4)) λw0 HO q4=>
 have hb:=(by decide:∀b∈[10,10,7,10],b<16) b hb
 have HO:=(by decide:∀w∈[8,4,8,2,1],w=8\/w=4\/w=2\/w=1) w0 HO
 dT (Nm (N:=N) (way:=way) HO) λw hw ZY ew=>
 iP (Ca (N:=N) W4 (s_ (c:=c) (n:=4) hc rfl) hh (uD hw).1 (uD hw).2) λx w5 hx sf W5 e5=>by
  subst q2 q4
  have W5':=W5.le (ce (c:=c) (n:=5) (m:=9) rfl)
  have t:T6 N (c+9+1) w5 h way b one w x:=by
   have W6:=W5'.le (ip _);rcases(show way<2\/way=2\/(2<way/\way<5)\/way=5\/5<way from(g8 way 2).elim .inl λq=>.inr (q.elim .inl λq=>.inr ((g8 way 5).elim (λr=>.inl ⟨q,r⟩) .inr)))with h1|rfl|⟨h1,CD⟩|rfl|h1
   . exact Jo W6 ja hb hx sf hw h1
   . exact Jl W6 ja hb hx sf hw
   . exact Jm W6 ja hb hx sf hw h1 CD
   . exact Jn W6 ja hb hx sf hw
   . exact Jp W5' ja hb hx sf hw h1 (ZY h1) (by lia)
  refine iH t λr w' a1 a2 a3 a4 q=>xE q λcJ e=>⟨r,w',a1,a2,a3,a4,λk=>cM rfl (bt rfl rfl (ao (gm (xs:=[.fv (nI way),.fv (nI b),.fv (nI one),.fv (nI w0)]) (ah (aG (ah rfl (ah rfl aE)) (e1 _)) (ah (aG (ah rfl (ah rfl aE)) (e2 _)) (ah (aG (ah rfl (ah rfl aE)) (e3 _)) (ah (aG (ah rfl (ah rfl aE)) (e4 _)) aE)))) rfl)<|ao (ew _ _ _ _ _)<|ao (aZ (aG (ah rfl (ah rfl (ah rfl aE))) (e5 k)) rfl)<|ao (aZ (d:=.list ((xC b x w).map .int)) ?_ rfl) (e k)))⟩;unfold xC;refine Cy (gJ (x:=b) (y:=10) (r:=decide (b=10)) (by rw[cT,beq_iff_eq,decide_eq_true_iff];lia) rfl rfl) (λq=>?_) (λq=>?_)
  . exact eW (if_pos (of_decide_eq_true q))<|FD _ rfl (HG (by lia) (uD hw).2)
  . exact eW (if_neg (of_decide_eq_false q)) rfl
theorem or5:∀n,n<5->n=0\/n=1\/n=2\/n=3\/n=4:=by decide
theorem or7:∀n,n<7->n=0\/n=1\/n=2\/n=3\/n=4\/n=5\/n=6:=by decide
theorem call_plain(hW:W c wl)(hc:c<=800000):∃r w',Row.Ok N r/\r.fM=false/\r.w<=1/\W (c+10) w'/\∀k,au N (k+4) (.obj 706) [.fv .well] wl=some (r.fv,w'):=by
 refine cps λGz kz=>?_
 (refine cO (dj (N:=N) (m:=5) hW (s_ (c:=c) (n:=0) hc rfl) (by decide) (by decide)) λway w1 O6 W1 e1=>?_)
 (refine cO (dj (N:=N) (m:=10) W1 (s_ (c:=c) (n:=1) hc rfl) (by decide) (by decide)) λone w2 ja W2 e2=>?_)
 (refine cO (dj (N:=N) (m:=10) W2 (s_ (c:=c) (n:=2) hc rfl) (by decide) (by decide)) λML w3 WG W3 e3=>?_)
 refine kz ?_
 suffices hs:∃r w',Row.Ok N r/\r.fM=false/\r.w<=1/\W (c+10) w'/\∃cJ,∀k,hU (au N (k+3)) N (lZ 1 (bodyOf rL)) ([.val .well,.val (nI way),.val (nI one),.val (nI ML),.unset,.unset,.unset],w3)=some (.ret r.fv,cJ,w')by
  (refine iH hs ?_;clear hs;intro r w' a1 a2 a3 a4 q1;refine xE q1 ?_;clear q1;intro cJ e)
  exact⟨r,w',a1,a2,a3,a4,λk=>cM rfl (bt rfl rfl (ao (gm (xs:=[.fv (nI way),.fv (nI one),.fv (nI ML)]) (ah (aG (ah rfl (ah rfl aE)) (e1 _)) (ah (aG (ah rfl (ah rfl aE)) (e2 _)) (ah (aG (ah rfl (ah rfl aE)) (e3 _)) aE))) rfl) (e k)))⟩
 clear e1 e2 e3
 have K0:way=0\/way=1\/way=2\/way=3\/way=4:=or5 _ O6;rcases K0 with rfl|rfl|rfl|rfl|rfl
 . (refine cO (call_of (N:=N) (xs:=[.tup [.int 7,.int 0],.tup [.int 87,.int 3],.tup [.int 2,.int 4],.tup [.int 132,.int 2],.tup [.int 131,.int 3],.tup [.int 89,.int 2]]) W3 (s_ (c:=c) (n:=3) hc rfl) (by decide) (by decide)) λd w4 hd W4 e4=>?_)
   refine bS (bO.mp (show d∈n6.map λt=>FV.tup [nI t.1,nI t.2]from hd)) λt ht q2=>?_;subst q2
   have K5:t.2<=100:=(by decide:∀t∈n6,t.2<=100) t ht
   have i1:items (.fv (.range 1 ((t.2:Int)+1) 1))=some (((ae t.2).map (1+·)).map nI):=by
    exact eW bH<|rE (a:=1) (b:=t.2+1) (by lia) (by lia)
   exact⟨_,_,JY ht,rfl,aU _,W4.le (ce (c:=c) (n:=4) rfl),[.val .well,.val (nI 0),.val (nI one),.val (nI ML),.ro (nI t.1),.val (nI t.2),.unset],λk=>br (cz (gJ rfl rfl rfl) (ao (xb (aG (ah rfl (ah rfl aE)) (e4 _)) rfl) (ao rfl (br (bZ (iF (ah rfl (ah rfl (ah (FD _ rfl i1) (ah rfl (ah rfl (ah rfl (ah rfl aE))))))) (by rfl)))))))⟩
 . obtain⟨jW,w4,-,W4,e4⟩:=dj (N:=N) (m:=12) W3 (s_ (c:=c) (n:=3) hc rfl) (by decide) (by decide)
   exact⟨_,_,NO (jW:=jW) ja WG,rfl,aT _,W4.le (ce (c:=c) (n:=4) rfl),_,λk=>ao (bl (gJ rfl rfl rfl) aY)<|br (cz (gJ rfl rfl rfl) (ao rfl (br (bZ (iF (ah rfl (ah rfl (ah rfl (ah rfl (ah rfl (ah rfl (ah (aG (ah rfl (ah rfl aE)) (e4 _)) aE))))))) (by rfl))))))⟩
 . obtain⟨jW,w4,-,W4,e4⟩:=dj (N:=N) (m:=12) W3 (s_ (c:=c) (n:=3) hc rfl) (by decide) (by decide)
   exact⟨_,_,NP (jW:=jW) ja,rfl,aT _,W4.le (ce (c:=c) (n:=4) rfl),_,λk=>ao (bl (gJ rfl rfl rfl) aY)<|ao (bl (gJ rfl rfl rfl) aY)<|br (cz (gJ rfl rfl rfl) (ao rfl (br (bZ (iF (ah rfl (ah rfl (ah rfl (ah rfl (ah rfl (ah rfl (ah (aG (ah rfl (ah rfl aE)) (e4 _)) aE))))))) (by rfl))))))⟩
 . exact⟨_,_,JU ja,rfl,aU _,W3.le (ce (c:=c) (n:=3) rfl),[.val .well,.val (nI 3),.ro (nI one),.val (nI ML),.unset,.unset,.unset],λk=>rfl⟩
 . (refine cO (call_of (N:=N) (xs:=[.str (aa "add"),.str (aa "mov"),.str (aa "xor")]) W3 (s_ (c:=c) (n:=3) hc rfl) (by decide) (by decide)) λd w4 hd W4 e4=>?_)
   refine bS (bO.mp (show d∈(uo.take 3).map λt=>FV.str t.2.1 from hd)) λt ht q3=>?_;subst q3
   have hm:=(by decide+kernel:∀t∈uo.take 3,(t.2.1==aa "mov")=t.2.2.1) t ht;refine⟨_,_,NT ht ja WG,rfl,aU _,W4.le (ce (c:=c) (n:=4) rfl),[.val .well,.val (nI 4),.ro (nI one),.ro (nI ML),.unset,.unset,.ro (.str t.2.1)],λk=>ao (bl (gJ rfl rfl rfl) aY)<|ao (bl (gJ rfl rfl rfl) aY)<|ao (bl (gJ rfl rfl rfl) aY)<|ao (bl (gJ rfl rfl rfl) aY)<|
    ao (aZ (aG (ah rfl (ah rfl aE)) (e4 _)) rfl)<|ao rfl<|br (bZ (iF (ah rfl (ah rfl (ah (x:=.fv (nL (J0 t one ML).asks)) (Cy (mU hm rfl rfl) (λq=>?_) (λq=>?_)) (ah rfl (ah rfl (ah rfl (ah rfl aE))))))) (by rfl)))⟩
   . show _=some (EV.fv (nL (if t.2.2.1=true then[ML]else[one,ML])),w4)
     exact eW q rfl
   . show _=some (EV.fv (nL (if t.2.2.1=true then[ML]else[one,ML])),w4)
     exact eW q rfl
theorem Er{h:Nat}(hW:W c wl)(hc:c<=800000)(hh:h<62):∃r w',Row.Ok N r/\r.fM=true/\r.w<=1/\W (c+10) w'/\∀k,au N (k+4) (.obj 713) [.fv .well,.fv (nI h)] wl=some (r.fv,w'):=by
 refine cps λGz kz=>?_
 (refine cO (dj (N:=N) (m:=7) hW (s_ (c:=c) (n:=0) hc rfl) (by decide) (by decide)) λway w1 O6 W1 e1=>?_)
 (refine cO (dj (N:=N) (m:=10) W1 (s_ (c:=c) (n:=1) hc rfl) (by decide) (by decide)) λone w2 ja W2 e2=>?_)
 (refine cO (call_of (N:=N) (xs:=[.int 7,.int 10]) W2 (s_ (c:=c) (n:=2) hc rfl) (by decide) (by decide)) λd3 w3 hd3 W3 e3=>?_)
 refine bS (bO.mp (show d3∈[7,10].map nI from hd3)) λb hb q4=>?_;subst q4;replace hb:=(by decide:∀b∈[7,10],b<16) b hb
 (refine iP (Ca (N:=N) (w:=8) W3 (s_ (c:=c) (n:=3) hc rfl) hh (by decide) (by decide)) λx w4 hx sf W4 e4=>?_)
 refine kz ?_
 suffices hs:∃r w',Row.Ok N r/\r.fM=true/\r.w<=1/\W (c+10) w'/\∃cJ,∀k,hU (au N (k+3)) N (lZ 1 (bodyOf rM)) ([.val .well,.val (nI h),.val (nI way),.val (nI one),.val (nI b),.val (.int (i_ x))],w4)=some (.ret r.fv,cJ,w')by
  (refine iH hs ?_;clear hs;intro r w' a1 a2 a3 a4 q5;refine xE q5 ?_;clear q5;intro cJ e)
  exact⟨r,w',a1,a2,a3,a4,λk=>cM rfl (bt rfl rfl (ao (gm (xs:=[.fv (nI way),.fv (nI one),.fv (nI b),.fv (.int (i_ x))]) (ah (aG (ah rfl (ah rfl aE)) (e1 _)) (ah (aG (ah rfl (ah rfl aE)) (e2 _)) (ah (aG (ah rfl (ah rfl aE)) (e3 _)) (ah (aG (ah rfl (ah rfl (ah rfl aE))) (e4 _)) aE)))) rfl) (e k)))⟩
 clear e1 e2 e3 e4;obtain⟨jW,w5,-,W5,e5⟩:=dj (N:=N) (m:=12) W4 (s_ (c:=c) (n:=4) hc rfl) (by decide) (by decide)
 have K0:way=0\/way=1\/way=2\/way=3\/way=4\/way=5\/way=6:=or7 _ O6;rcases K0 with rfl|rfl|rfl|rfl|rfl|rfl|rfl
 . exact⟨_,_,J1 ja,rfl,aU _,W4.le (ce (c:=c) (n:=4) rfl),[.val .well,.val (nI h),.val (nI 0),.ro (nI one),.val (nI b),.val (.int (i_ x))],λk=>rfl⟩
 . exact⟨_,_,NS (jW:=jW) ja,rfl,aT _,W5.le (ce (c:=c) (n:=5) rfl),_,λk=>ao (bl (gJ rfl rfl rfl) aY)<|br (cz (gJ rfl rfl rfl) (ao rfl (br (bZ (iF (ah rfl (ah rfl (ah rfl (ah rfl (ah rfl (ah rfl (ah (aG (ah rfl (ah rfl aE)) (e5 _)) aE))))))) (by rfl))))))⟩
 . exact⟨_,_,NR (jW:=jW) ja,rfl,aT _,W5.le (ce (c:=c) (n:=5) rfl),_,λk=>ao (bl (gJ rfl rfl rfl) aY)<|ao (bl (gJ rfl rfl rfl) aY)<|br (cz (gJ rfl rfl rfl) (ao rfl (br (bZ (iF (ah rfl (ah rfl (ah rfl (ah rfl (ah rfl (ah rfl (ah (aG (ah rfl (ah rfl aE)) (e5 _)) aE))))))) (by rfl))))))⟩
 . exact⟨_,_,NQ (jW:=jW),rfl,aT _,W5.le (ce (c:=c) (n:=5) rfl),_,λk=>ao (bl (gJ rfl rfl rfl) aY)<|ao (bl (gJ rfl rfl rfl) aY)<|ao (bl (gJ rfl rfl rfl) aY)<|br (cz (gJ rfl rfl rfl) (br (bZ (iF (ah rfl (ah rfl (ah rfl (ah rfl (ah rfl (ah rfl (ah (aG (ah rfl (ah rfl aE)) (e5 _)) aE))))))) (by rfl)))))⟩
 . exact⟨_,_,Dc hb hx sf,rfl,aU _,W4.le (ce (c:=c) (n:=4) rfl),[.val .well,.val (nI h),.val (nI 4),.val (nI one),.ro (nI b),.ro (.int (i_ x))],λk=>rfl⟩
 . exact⟨_,_,Hf hb hx sf,rfl,aU _,W4.le (ce (c:=c) (n:=4) rfl),[.val .well,.val (nI h),.val (nI 5),.val (nI one),.ro (nI b),.ro (.int (i_ x))],λk=>rfl⟩
 . exact⟨_,_,JT ja,rfl,aU _,W4.le (ce (c:=c) (n:=4) rfl),[.val .well,.val (nI h),.val (nI 6),.ro (nI one),.val (nI b),.val (.int (i_ x))],λk=>rfl⟩
noncomputable def o6:Nat->IB->IS
 |0,.cons s _=>s
 |n+1,.cons _ r=>o6 n r
 |_,.nil=>.cont
noncomputable def bR:IB->IB
 |.cons (.for _ _ b) _=>b
 |.cons _ r=>bR r
 |.nil=>.nil
structure mv(N:Nat)(R:List Row)(loose hH:Bool):Prop where
 ok:∀r∈R,r.Ok N
 len:R.length<=10
 last:∃L,R=L++[oR]/\∀r∈L,r.w≠3
 calls:R.countP (λr=>r.w==4)=if hH then 1 else 0
 fM:R.any (λr=>r.fM)=loose
 reach:∀p r,R[p]?=some r->r.w=2->∃j r',R[j]?=some r'/\r'.w=1/\r'.jW%R.length=p+1/\j<p
structure Found(N:Nat)(L:List Row)(n c:Nat)(lk:Bool):Prop where
 ok:∀r∈L,r.Ok N/\r.w≠3
 len:L.length<=2*n+c
 calls:L.countP (λr=>r.w==4)=c
 fM:L.any (λr=>r.fM)=lk
 reach:∀p r,L[p]?=some r->r.w=2->∃j r',L[j]?=some r'/\r'.w=1/\r'.jW=p+1/\j<p
theorem Jv{L:List Row}{x:Row}(hx:x∈L++[r])(k:x∈L->P)(l:x=r->P):P:=(cq.mp hx).elim k λq=>l (aI.mp q)
theorem vq{L:List Row}{Q:Nat->Row->Prop}(h:∀p x,L[p]?=some x->x.w=2->∃j r',L[j]?=some r'/\r'.w=1/\Q p r'/\j<p)(hj:r.w=2->∃j r',L[j]?=some r'/\r'.w=1/\Q L.length r'/\j<L.length):
 ∀p x,(L++[r])[p]?=some x->x.w=2->∃j r',(L++[r])[j]?=some r'/\r'.w=1/\Q p r'/\j<p:=λp x hp h2=>
 have up:∀{j:Nat}{r':Row},L[j]?=some r'->(L++[r])[j]?=some r':=λe=>(ei (fB e)).trans e
 uQ hp (λe=>iP (h p x e h2) λj r' e a1 a2 a3=>⟨j,r',up e,a1,a2,a3⟩) λi e1 e2=>by
  have i0:i=0:=Uk.mp (fB e2);subst i0
  have e3:r=x:=ag e2;subst e3;exact eW e1<|iP (hj h2) λj r' e a1 a2 a3=>⟨j,r',up e,a1,a2,a3⟩
theorem Found.snoc{L:List Row}{n n' c':Nat}{lk lk':Bool}(h:Found N L n c lk)(hr:r.Ok N/\r.w≠3)(hl:L.length+1<=2*n'+c')(hc:c+(if(r.w==4)=true then 1 else 0)=c')(hk:(lk||r.fM)=lk')(hj:r.w=2->∃j r',L[j]?=some r'/\r'.w=1/\r'.jW=L.length+1/\j<L.length):Found N (L++[r]) n' c' lk' where
 ok _ hx:=Jv hx (h.ok _) λe=>e▸hr
 len:=ak (bh aJ) hl
 calls:=IZ.trans ((congrArg (·+_) h.calls).trans ((congrArg (c+·) ((M5 ..).trans (dY _))).trans hc))
 fM:=Qj.trans ((congrArg (·||_) h.fM).trans ((congrArg (lk||·) (fQ _)).trans hk))
 reach:=vq (Q:=λp r'=>r'.jW=p+1) h.reach hj
theorem Found.add{L:List Row}{n:Nat}{lk:Bool}(h:Found N L n c lk)(hr:r.Ok N)(h3:r.w<=1):Found N (L++[r]) (n+1) c (lk||r.fM):=
 h.snoc ⟨hr,λe=>absurd (e▸h3) (by decide)⟩ (by have:=h.len;lia) (by rw[show(r.w==4)=false from beq_eq_false_iff_ne.mpr λe=>absurd (e▸h3) (by decide)];rfl) rfl λe=>absurd (e▸h3) (by decide)
theorem Found.call{L:List Row}{n:Nat}{lk:Bool}(h:Found N L n 0 lk):Found N (L++[Dg]) n 1 lk:=
 h.snoc ⟨He,(by decide:(4:Nat)≠3)⟩ (cB h.len) rfl (fQ _) λe=>absurd e (by decide:(4:Nat)≠2)
theorem Found.ZQ{L:List Row}{n:Nat}{HU lk:Bool}(h:Found N L n c lk):Found N (L++[Sm (L.length+2)]++[Ff HU jW]) (n+1) c lk:=
 have hl:=h.len
 have h1:Found N (L++[Sm (L.length+2)]) (n+1) c lk:=h.snoc ⟨Sl,(by decide:(1:Nat)≠3)⟩ (by lia) rfl (fQ _) λe=>absurd e (by decide:(1:Nat)≠2)
 have e1:(L++[Sm (L.length+2)]).length=L.length+1:=aJ
 h1.snoc ⟨JW,(by decide:(2:Nat)≠3)⟩ (e1.symm▸(by lia)) rfl (fQ _) λ_=>⟨L.length,Sm (L.length+2),List.getElem?_concat_length,rfl,(congrArg (·+1) e1).symm,jy (bg _) e1.symm⟩
theorem Found.part{L:List Row}{n:Nat}{lk hH:Bool}(h:Found N L n c lk)(hn:n<=4)(hc:c=if hH then 1 else 0):mv N (L++[oR]) lk hH:=
 have hl:L.length<=9:=ak h.len (j0 (iY 2 hn) (hc▸hH.casesOn (motive:=λb=>(if b then 1 else 0)<=1) (aU _) (aT _)))
 have hL:(L++[oR]).length=L.length+1:=aJ
 {ok:=λx hx=>Jv hx (λq=>(h.ok x q).1) λe=>e▸JX
  len:=ak (bh hL) (cB hl)
  last:=⟨L,rfl,λr hr=>(h.ok r hr).2⟩
  calls:=IZ.trans (h.calls.trans hc)
  fM:=Qj.trans ((congrArg (·||_) h.fM).trans (fQ _))
  reach:=vq (Q:=λp r'=>r'.jW%(L++[oR]).length=p+1) (λp x hp h2=>iP (h.reach p x hp h2) λj r' e a1 a2 a3=>⟨j,r',e,a1,by exact eW a2<|eW hL<|Nat.mod_eq_of_lt (xl (fB hp)),a3⟩) λe=>absurd e (by decide:(3:Nat)≠2)}
abbrev dO(L:List Row):List FV:=L.map Row.fv
def Cu(cb lb:Bool)(h m s g:Nat)(L:List Row)(y kd:Slot):List Slot:=[.val .well,.val (.bool cb),.val (nI h),.val (nI m),.val (.bool lb),.val (nI s),.val (nI g),.own (.ob (.list (dO L))),y,kd]
theorem yo{L:List Row}:dO (L++[r])=dO L++[r.fv]:=bf
theorem yH{b:Bool}{g:Nat}(q:(b&&decide (i=g))=false):(b&&decide (g<i+1))=(b&&decide (g<i)):=by
 induction b using ax with
 |false=>rfl
 |true=>exact decide_eq_decide.mpr ⟨λh=>gL (mY h) λe=>of_decide_eq_false q e.symm,dm⟩
theorem uR{b:Bool}{g:Nat}(q:(b&&decide (i=g))=true):(b&&decide (g<i))=false/\(b&&decide (g<i+1))=true/\b=true:=an q λh1 h2=>by
 have e:=of_decide_eq_true h2;subst h1 e;exact⟨decide_eq_false (b9 _),decide_eq_true (bg _),rfl⟩
noncomputable def Ej(b:Bool):Nat:=if b then 1 else 0
theorem Ga(b:Bool):Ej b<=1:=b.casesOn (motive:=λb=>Ej b<=1) (aU _) (aT _)
section
variable {cb lb:Bool}{h m g:Nat}{y kd:Slot}
theorem mI{L:List Row}{w w':WL}(hl:L.length<=100)(q:ev C e (Cu cb lb h m s g L y kd) w=some (.fv r.fv,w')):ex C N (.append (.v 7) e) (Cu cb lb h m s g L y kd,w)=some (.next,Cu cb lb h m s g (L++[r]) y kd,w'):=
 (i8 (xs:=dO L) rfl q (decide_eq_true (by exact eW (aj ..)<|ll hl rfl))).trans (by unfold Cu;exact eW yo rfl)
theorem Hm{L:List Row}{lk:Bool}{w:WL}(hF:Found N L i (Ej (cb&&decide (g<i))) lk)(hl:L.length<=9):∃L1,Found N L1 i (Ej (cb&&decide (g<i+1))) lk/\L1.length<=10/\ex (au N (k+4)) N (o6 0 (bR (bodyOf kl))) (Cu cb lb h m s g L (.val (nI i)) kd,w)=some (.next,Cu cb lb h m s g L1 (.val (nI i)) kd,w):=by
 have tc:eK (au N (k+4)) (.ic (.cons (.var 1) (.cons (.cmp .Eq (.var 8) (.var 6)) .nil))) (Cu cb lb h m s g L (.val (nI i)) kd) w=some (cb&&decide (i=g),w):=qL (jG rfl rfl) (Q_ rfl rfl);induction q:(cb&&decide (i=g))using ax with
 |true=>
  rw[(uR q).1]at hF;exact eW ((uR q).2.1)<|⟨L++[Dg],hF.call,ak (bh aJ) (cB hl),cz (q▸tc) (ao (mI (ll hl rfl) rfl) aY)⟩
 |false=>exact⟨L,yH q▸hF,jZ hl,bl (q▸tc) aY⟩
theorem Hl{L:List Row}{n kind:Nat}{w:WL}(hF:Found N L i n (lb&&decide (s<i)))(hl:L.length<=10)(hW:W c w)(hc:c<=750000)(hh:h<62)(hcb:cb=cb):∃L2 w',Found N L2 (i+1) n (lb&&decide (s<i+1))/\W (c+12) w'/\
 ex (au N (k+4)) N (o6 2 (bR (bodyOf kl))) (Cu cb lb h m s g L (.val (nI i)) (.val (nI kind)),w)=some (.next,Cu cb lb h m s g L2 (.val (nI i)) (.val (nI kind)),w'):=by
 have tl:eK (au N (k+4)) (.ic (.cons (.var 4) (.cons (.cmp .Eq (.var 8) (.var 5)) .nil))) (Cu cb lb h m s g L (.val (nI i)) (.val (nI kind))) w=some (lb&&decide (i=s),w):=qL (jG rfl rfl) (Q_ rfl rfl)
 have K5:L.length<=100:=ll hl rfl;induction q:(lb&&decide (i=s))using ax with
 |true=>
  rw[(uR q).1]at hF;exact eW ((uR q).2.1)<|iH (Er (N:=N) (h:=h) hW (s_ (n:=0) hc rfl) hh) λr w' r1 r2 r3 r4 r5=>⟨L++[r],w',r2▸hF.add r1 r3,r4.le (ce rfl),cz (q▸tl) (ao (mI K5 (aG (ah rfl (ah rfl aE)) (r5 k))) aY)⟩
 |false=>
  rw[<-yH q]at hF;by_cases h6:kind<6
  . exact iH (Em (N:=N) (h:=h) hW (s_ (n:=0) hc rfl) hh) λr w' r1 r2 r3 r4 r5=>⟨L++[r],w',by have:=hF.add r1 (r3▸aU _);rwa[r2,fQ]at this,r4.le (ce rfl),bl (q▸tl) (ao (cz ((Gr (x:=kind) (y:=6) rfl rfl).trans (by exact eW (decide_eq_true h6) rfl)) (ao (mI K5 (aG (ah rfl (ah rfl aE)) (r5 k))) aY)) aY)⟩
  . have t6:eK (au N (k+4)) (.cmp .Lt (.var 9) (.lit (.int 6))) (Cu cb lb h m s g L (.val (nI i)) (.val (nI kind))) w=some (false,w):=(Gr (x:=kind) (y:=6) rfl rfl).trans (by exact eW (decide_eq_false h6) rfl)
    have t9:eK (au N (k+4)) (.cmp .Lt (.var 9) (.lit (.int 9))) (Cu cb lb h m s g L (.val (nI i)) (.val (nI kind))) w=some (decide (kind<9),w):=Gr (x:=kind) (y:=9) rfl rfl;by_cases h9:kind<9
    . rw[decide_eq_true h9]at t9
      exact iH (call_plain (N:=N) hW (s_ (n:=0) hc rfl)) λr w' r1 r2 r3 r4 r5=>⟨L++[r],w',by have:=hF.add r1 r3;rwa[r2,fQ]at this,r4.le (ce rfl),bl (q▸tl) (ao (bl t6 (ao (cz t9 (ao (mI K5 (aG (ah rfl aE) (r5 k))) aY)) aY)) aY)⟩
    . rw[decide_eq_false h9]at t9
      refine cO (call_of (N:=N) (xs:=[.obj 347,.obj 354]) hW (s_ (n:=0) hc rfl) (by decide) (by decide)) λd w7 hd W7 e7=>cO (dj (N:=N) (m:=12) W7 (s_ (c:=c) (n:=1) hc rfl) (by decide) (by decide)) λjW w8 _ W8 e8=>?_
      have hf:∃HU:Bool,d=if HU then .obj 354 else .obj 347:=(a6.mp hd).elim (λe=>⟨false,e⟩) λhd=>⟨true,aI.mp hd⟩
      refine xE hf λHU hd=>?_;subst hd
      have eb:ev (au N (k+4)) (.bin .Add (.bj .len false (.cons (.var 7) .nil)) (.lit (.int 2))) (Cu cb lb h m s g L (.val (nI i)) (.val (nI kind))) w=some (.fv (nI (L.length+2)),w):=dh (cK (r:=.fv (nI L.length)) (ah rfl aE) (by
       show(if cg (dO L).length=true then some (EV.fv (.int ((dO L).length:Nat)))else ab)=_;exact eW (aj ..)<|eW (if_pos (show cg L.length=true from decide_eq_true (ll hl rfl))) rfl)) rfl rfl
      exact⟨L++[Sm (L.length+2)]++[Ff HU jW],w8,hF.ZQ,W8.le (ce (c:=c) (n:=2) rfl),bl (q▸tl) (ao (bl t6 (ao (bl t9 (ao (mI (r:=Sm (L.length+2)) K5 (iF (ah rfl (ah rfl (ah rfl (ah rfl (ah rfl (ah rfl (ah eb aE))))))) (by rfl)))
       (ao (mI (r:=Ff HU jW) (by exact eW aJ<|ak (cB hl) (by decide)) (iF (ah rfl (ah (aG (ah rfl (ah rfl aE)) (e7 _)) (ah rfl (ah rfl (ah rfl (ah rfl (ah (aG (ah rfl (ah rfl aE)) (e8 _)) aE))))))) (by rfl))) aY))) aY)) aY)⟩
end
def PtJ(N:Nat)(cb lb:Bool)(s g c i:Nat)(a:List Row×WL×Slot):Prop:=Found N a.1 i (Ej (cb&&decide (g<i))) (lb&&decide (s<i))/\W (c+14*i) a.2.1/\Y a.2.2
theorem Hj{cb lb:Bool}{h m g:Nat}(hi:i<m)(hm:m<=4)(hh:h<62)(hc:c<=700010){a:List Row×WL×Slot}:PtJ N cb lb s g c i a->Turn (hU (au N (k+4)) N (bR (bodyOf kl)) (Cu cb lb h m s g a.1 (.val (nI i)) a.2.2,a.2.1)) (λ(a:List Row×WL×Slot) y=>Cu cb lb h m s g a.1 y a.2.2) (λa=>a.2.1) (PtJ N cb lb s g c (i+1)):=
 So a λL w kd q=>jN q λhF hW hY=>by
  clear q
  have hl:L.length<=9:=ak hF.len (by have:=Ga (cb&&decide (g<i));lia);refine dT (Hm (k:=k) (cb:=cb) (lb:=lb) (h:=h) (m:=m) (s:=s) (g:=g) (kd:=kd) (w:=w) hF hl) λL1 hF1 ZM e1=>cO (dj (N:=N) (m:=10) hW (by lia) (by decide) (by decide)) λkind w6 _ W6 e6=>
   cO (Hl (k:=k) (cb:=cb) (lb:=lb) (h:=h) (m:=m) (s:=s) (g:=g) (kind:=kind) hF1 ZM W6 (by lia) hh rfl) λL2 w' h1 h2 h3=>?_
  exact .next (L2,w',.val (nI kind)) (.val (nI i)) (ao e1 (ao (aZ (aG (ah rfl (ah rfl aE)) (e6 _)) (jB rfl hY)) (ao h3 aY))) (.va _) ⟨h1,h2.le (by lia),.va _⟩
theorem Ia{hH:Bool}(hW:W c wl)(hc:c<=700000):∃R loose w',mv N R loose hH/\W (c+100) w'/\au N (k+5) (.obj 720) [.fv .well,.fv (.bool hH)] wl=some (.tup [.list (dO R),.bool loose],w'):=
 cO (dj (N:=N) (m:=62) hW (s_ (c:=c) (n:=0) hc rfl) (by decide) (by decide)) λTh w1 WO W1 e1=>
 cO (dj (N:=N) (m:=3) W1 (s_ (c:=c) (n:=1) hc rfl) (by decide) (by decide)) λmore w2 WJ W2 e2=>
 cO (dj (N:=N) (m:=3) W2 (s_ (c:=c) (n:=2) hc rfl) (by decide) (by decide)) λlo w3 CB W3 e3=>
 have m4:2+more<=4:=ct (mY WJ) 2
 have mb:2+more<2^128:=aQ m4 (by decide)
 cO (dj (N:=N) (m:=2+more) W3 (s_ (c:=c) (n:=3) hc rfl) (az (by decide) (aP 2 more)) mb) λJu w4 WC W4 e4=>
 cO (dj (N:=N) (m:=2+more) W4 (s_ (c:=c) (n:=4) hc rfl) (az (by decide) (aP 2 more)) mb) λgate w5 hgate W5 e5=>
 xU (C:=au N (k+4)) (N:=N) (fr:=Cu hH ((lo:Int)==1) Th (2+more) Ju gate [] .unset .unset) (wl:=w5) (λ(a:List Row×WL×Slot) y=>Cu hH ((lo:Int)==1) Th (2+more) Ju gate a.1 y a.2.2) (λa=>a.2.1)
  (PtJ N hH ((lo:Int)==1) Ju gate (c+5)) ([],w5,.unset) (j:=8) (it:=.bj .range false (.cons (.var 3) .nil)) (b:=bR (bodyOf kl)) (y0:=.unset) rfl (cN (b:=2+more) (ll m4 rfl)) rfl .un
  ⟨⟨λ_ h=>absurd h a8,aU _,(congrArg Ej (jL _)).symm,(jL _).symm,λp r h=>nn h⟩,W5,.un⟩ (λ_ _=>rfl) (λ_ _ _=>rfl) (λi a hi g=>Hj hi m4 WO (by lia) g)
  λa y _=>So a λL w6 kd g e6=>by
   have hF:Found N L (2+more) (Ej (hH&&decide (gate<2+more))) (((lo:Int)==1)&&decide (Ju<2+more)):=g.1;rw[decide_eq_true hgate,decide_eq_true WC,m7,m7]at hF
   have len:L.length<=9:=ak hF.len (j0 (iY 2 m4) (Ga _));refine⟨L++[oR],_,w6,hF.part m4 rfl,g.2.1.le (by lia),cM rfl<|bt rfl rfl<|ao (gm (xs:=[.fv (nI Th),.fv (nI (2+more)),.fv (.bool ((lo:Int)==1))]) (ah (aG (ah rfl (ah rfl aE)) (e1 _)) (ah (dh rfl (aG (ah rfl (ah rfl aE)) (e2 _)) rfl) (ah (y7 (aG (ah rfl (ah rfl aE)) (e3 _)) rfl rfl) aE))) rfl)<|
    ao (gm (xs:=[.fv (nI Ju),.fv (nI gate),.own (.ob (.list []))]) (ah (aG (ah rfl (ah rfl aE)) (e4 _)) (ah (aG (ah rfl (ah rfl aE)) (e5 _)) (ah rfl aE))) rfl)<|
    ao e6<|br<|bZ<|iF (ah (x:=.fv (.list (dO (L++[oR])))) (dh rfl rfl ?_) (ah rfl aE)) (by rfl)⟩
   show(if cg ((dO L).length+1)=true then some (EV.fv (.list (dO L++[oR.fv])))else ab)=_;rw[if_pos (show cg _=true from decide_eq_true (by rw[aj];exact ll (cB len) rfl)),yo]
theorem Kp{a b:Int}(h:a.natAbs<2^63\/b.natAbs<2^63):i7 .Mult (.fv (.int a)) (.fv (.int b))=some (.fv (.int (a*b))):=by
 show(if a.natAbs<2^63\/b.natAbs<2^63 then some (a*b)else ab).map (λr=>EV.fv (.int r))=_;exact eW (if_pos h) rfl
theorem H9{ns:List Int}(hn:ns.length<=63):∃wl,W 0 wl/\au N (k+1) (.obj 671) [.fv (.list (ns.map FV.int))] none=some (.well,wl):=by
 have p90:∀(C:my) fr,ev C (.bin .Pow (.lit (.int 10)) (.lit (.int 90))) fr none=some (.fv (.int (10^90)),none):=λC fr=>by kernel_rfl
 have p40:∀(C:my) fr,ev C (.bin .Pow (.lit (.int 10)) (.lit (.int 40))) fr none=some (.fv (.int (10^40)),none):=λC fr=>by kernel_rfl
 (refine cO (uU (C:=au N k) (N:=N) (fr:=[.val (.list (ns.map FV.int)),.val (.int 10007),.unset]) (wl:=none) (λ(v:Int) y=>[.val (.list (ns.map FV.int)),.val (.int v),y]) (λ_=>none) (λ_ v=>0<=v) 10007 (j:=2) (it:=.xy (.var 0) (.lit .none) (.lit (.int 63))) (x:=.fv (.list ((ns.map FV.int).take 63))) (vs:=(ns.map FV.int).take 63)
   (b:=bR (bodyOf tO)) (y0:=.unset) (MG rfl rfl rfl (U8 (by decide) (by refine eW (aj ..) ?_;lia))) (rF (by refine eW gf<|eW (aj ..) ?_;lia)) rfl .un (by decide) (λa y v hy=>by cases hy<;>rfl) (λi d v hd hv=>by
     have ui:=aF hd;obtain⟨cell,-,rfl⟩:=bO.mp (kN ui)
     have m1:=Kp (a:=v) (b:=1000003) (.inr (by decide))
     have m2:∀z:Int,i7 .Mult (.fv (.int 2)) (.fv (.int z))=some (.fv (.int (2*z))):=λz=>Kp (.inl (by decide));refine⟨.next,_,.val (.int cell),ao (aZ (dh (dh rfl rfl m1) (dh (dh (dh rfl (cK (ah (cK (ah rfl aE) rfl) aE) rfl) (m2 _)) (cK (ah (y7 rfl rfl rfl) aE) rfl) rfl) (p90 _ _) (r:=.fv (.int (Int.fmod (2*(cell.natAbs:Int)+if decide (cell<0)then 1 else 0) (10^90)))) ?_) rfl) rfl) aY,.va _,fw,?_⟩
     . rfl
     . exact Int.add_nonneg (Int.mul_nonneg hv (by decide)) (Int.fmod_nonneg_of_pos _ (by decide)))) λv y hy hv e=>?_)
 (refine xE (gn hv) λn q1=>?_;subst q1)
 obtain⟨a,ha⟩:∃a:Nat,ev (au N k) (.ite (.cmp .GtE (.var 1) (.bin .Pow (.lit (.int 10)) (.lit (.int 40)))) (.var 1) (.bin .Pow (.var 1) (.lit (.int 11)))) [.val (.list (ns.map FV.int)),.val (.int n),y] none=some (.fv (nI a),none):=by
  by_cases h:(10:Int)^40<=n
  . exact⟨n,qW (T7 (decide_eq_true h) rfl (p40 _ _)) rfl⟩
  . refine⟨n^11,pA (T7 (decide_eq_false h) rfl (p40 _ _)) (dh rfl rfl ?_)⟩
    have hb:dw (n:Int)<=133:=by
     unfold dw;split
     . exact aU _
     . rename_i q
       refine eW (Int.natAbs_natCast ..) ?_
       have h0:n≠0:=λc=>q (by exact eW c rfl)
       have:n.log2<133:=(Y9 h0).mpr (dk (dn.mp (MC.mp h)) (by decide));lia
    show(if 0<=(11:Int)/\((dw (n:Int):Nat):Int)*11<=2^27 then some ((n:Int)^(11:Int).toNat)else ab).map (λr=>EV.fv (.int r))=_;rw[if_pos ⟨by decide,by lia⟩];exact congrArg (λz=>some (EV.fv (.int z))) (yb n 11).symm
 refine⟨some [nI a,nI 0],⟨a,0,rfl,aT _⟩,cM rfl<|bt rfl rfl<|ao (aZ rfl rfl)<|ao e<|br (bZ ?_)⟩;exact eW yJ<|eW ha rfl
inductive kX(n:Nat)(nx:Nat->List Nat)(asks gv:Nat->Nat->Prop):Nat->Nat->Prop where
 |ask {i t:Nat}:i<n->asks i t->kX n nx asks gv i t
 |back {i j t:Nat}:i<n->j∈nx i->kX n nx asks gv j t->¬gv i t->kX n nx asks gv i t
theorem kX.least{n:Nat}{asks gv F:Nat->Nat->Prop}(h1:∀i t,i<n->asks i t->F i t)(h2:∀i j t,i<n->j∈nx i->F j t->¬gv i t->F i t)(h:kX n nx asks gv i t):F i t:=by
 induction h with
 |ask hi ha=>exact h1 _ _ hi ha
 |back hi hj _ hl ih=>exact h2 _ _ _ hi hj ih hl
theorem fx{n:Nat}(h:xs[n]?=some d)(hn:n<1000000):jq (.fv (.list xs)) (.fv (nI n)) wl=some (.fv d):=Ww.trans (Di h hn)
theorem nJ{n:Nat}(h:xs[n]?=some d)(hn:n<1000000):jq (.bor (.ob (.list xs))) (.fv (nI n)) wl=some (.fv d):=KW.trans (Di h hn)
theorem nE(h:xs.length<=1000):ju .len false [.fv (.list xs)]=some (.fv (nI xs.length)):=Wc (ak h (by decide))
theorem Ja:((ae 5).all λw=>(oC w==aa "exit")==decide (w=3)&&(oC w==aa "jump")==decide (w=2)&&(oC w==aa "branch")==decide (w=1)&&(oC w==aa "call")==decide (w=4))=true:=by kernel_rfl
theorem EZ{w:Nat}(h:w<=4):(oC w==aa "exit")=decide (w=3)/\(oC w==aa "jump")=decide (w=2)/\(oC w==aa "branch")=decide (w=1)/\(oC w==aa "call")=decide (w=4):=
 have q:=aH.mp Ja w (aC.mpr (dZ h))
 Mc q λa b c d=>⟨eq_of_beq a,eq_of_beq b,eq_of_beq c,eq_of_beq d⟩
noncomputable def l7(w at_ to:Nat):List Nat:=if w=3 then[]else if w=2 then[to]else if w=1 then[at_+1,to]else[at_+1]
theorem Ep{R:List Row}(hr:R[i]?=some r)(hw:r.w<=4)(hl:R.length<=10):au N (k+1) (.obj 727) [.fv (.list (dO R)),.fv (nI i)] wl=some (nL (l7 r.w i (r.jW%R.length)),wl):=by
 have hi:i<R.length:=(c9.mp hr).1
 have e0:ev (au N k) (.idx (.var 0) (.var 1)) [.val (.list (dO R)),.val (nI i),.unset,.unset] wl=some (.fv r.fv,wl):=de rfl rfl (fx (by refine eW fK<|eW hr ?_;rfl) (by lia))
 have e1:ev (au N k) (.bj .len false (.cons (.var 0) .nil)) [.val (.list (dO R)),.val (nI i),.unset,.unset] wl=some (.fv (nI R.length),wl):=by
  have:=nE (xs:=dO R) (by refine eW (aj ..) ?_;lia);rw[aj]at this;exact cK (ah rfl aE) this
 refine cps λGz kz=>?_;obtain⟨q3,q2,q1,-⟩:=EZ hw;refine kz ?_;refine cM rfl<|bt (cJ:=[.val (.list (dO R)),.val (nI i),.val (.str (oC r.w)),.val (nI (r.jW%R.length))]) rfl rfl<|ao (gm (xs:=[.fv (.str (oC r.w)),.fv (nI (r.jW%R.length))]) (ah (de e0 rfl rfl) (ah (dh (de e0 rfl rfl) e1 (Dv (by lia))) aE)) rfl) ?_;unfold l7;by_cases h3:r.w=3
 . exact eW (if_pos h3)<|br (cz (mU (q3.trans (decide_eq_true h3)) rfl rfl) (br (bZ rfl)))
 . refine eW (if_neg h3) ?_
   refine ao (bl (mU (q3.trans (decide_eq_false h3)) rfl rfl) aY) ?_;by_cases h2:r.w=2
   . exact eW (if_pos h2)<|br (cz (mU (q2.trans (decide_eq_true h2)) rfl rfl) (br (bZ rfl)))
   . refine eW (if_neg h2) ?_
     refine ao (bl (mU (q2.trans (decide_eq_false h2)) rfl rfl) aY) (br (bZ ?_));by_cases h1:r.w=1
     . exact eW (if_pos h1)<|qW (mU (q1.trans (decide_eq_true h1)) rfl rfl) rfl
     . exact eW (if_neg h1)<|pA (mU (q1.trans (decide_eq_false h1)) rfl rfl) rfl
theorem T'{l:Nat}{d1 d2:FV}(ho:fr[l]?=some (.own (.ob (.list (ys++[.tup [d1,d2]])))))(hs:(ys++[FV.tup [d1,d2]]).length<=2^20)(h:ez (fr.set l (.own (.ob (.list ys)))) [i,j] [d1,d2]=some cJ):ex C N (.pop [i,j] false l) (fr,wl)=some (.next,cJ,wl):=
 bs (bs (bs ho rfl) rfl) (bs GB ((if_pos (decide_eq_true hs)).trans (ms (show ez (fr.set l (.own (.ob (.list (ys++[FV.tup [d1,d2]]).dropLast)))) [i,j] [d1,d2]=some cJ from(congrArg (λy=>ez (fr.set l (.own (.ob (.list y)))) [i,j] [d1,d2]) GD).trans h))))
theorem Ml{l:Nat}(ho:fr[l]?=some (.own (.ob (.list (ys++[d])))))(hs:(ys++[d]).length<=2^20)(h:setSlot (fr.set l (.own (.ob (.list ys)))) j (.val d)=some cJ):ex C N (.pop [j] true l) (fr,wl)=some (.next,cJ,wl):=
 bs (bs (bs ho rfl) rfl) (bs GB ((if_pos (decide_eq_true hs)).trans (ms (show setSlot (fr.set l (.own (.ob (.list (ys++[d]).dropLast)))) j (.val d)=some cJ from(congrArg (λy=>setSlot (fr.set l (.own (.ob (.list y)))) j (.val d)) GD).trans h))))
theorem EF{n:Nat}{i:IE}(ho:fr[j]?=some (.own (.gu iG)))(hi:ev C i fr wl=some (.fv (nI n),wl))(hx:iG[n]?=some xs)(hn:n<1000000)(h:ev C e fr wl=some (.fv d,wl))(hs:xs.length<=2^20):
 ex C N (.append (.at j i) e) (fr,wl)=some (.next,fr.set j (.own (.gu (iG.set n (xs++[d])))),wl):=
 have hg:kD C (.at j i) fr wl=some ((.list xs,λo'=>(o'.l?).elim fr λys=>fr.set j (.own (.gu (iG.set n ys)))),wl):=
  bs (bs ho rfl) (bs rfl (bs hi (bs rfl ((if_pos (show 0<=(n:Int)/\(n:Int)<2^62 from⟨bJ n,by lia⟩)).trans (ms hx)))))
 bs hg (bs h (bs rfl (bs rfl (if_pos (decide_eq_true hs)))))
theorem eD{α:Type}{f:Nat->α}{n:Nat}(h:i<n):((ae n).map f)[i]?=some (f i):=by refine eW fK<|eW (II h) ?_;rfl
noncomputable def upd{α:Type}(f:Nat->α)(i:Nat)(v:α):Nat->α:=λj=>if j=i then v else f j
theorem d8{α:Type}{f:Nat->α}{v:α}:upd f i v i=v:=if_pos rfl
theorem gi{α:Type}{f:Nat->α}{v:α}(h:j≠i):upd f i v j=f j:=if_neg h
theorem zl{α β:Type}{f:Nat->α}{F:α->β}{n:Nat}{v:α}:((ae n).map λj=>F (f j)).set i (F v)=(ae n).map λj=>F (upd f i v j):=by
 apply Mz;intro j;refine eW List.getElem?_set ?_;by_cases hj:j<n
 . refine eW (eD hj) ?_
   by_cases q:i=j
   . subst q;rw[if_pos rfl,if_pos (by rw[aj,aq];exact hj),eD hj,d8]
   . exact eW (if_neg q)<|eW (eD hj)<|eW (gi (λc=>q c.symm)) rfl
 . have h1:((ae n).map λj=>F (f j))[j]?=none:=ba (by refine eW (aj ..)<|eW aq ?_;lia)
   have h2:((ae n).map λj=>F (upd f i v j))[j]?=none:=ba (by refine eW (aj ..)<|eW aq ?_;lia);refine eW h1<|eW h2 ?_;split
   . rw[if_neg (by rw[aj,aq];lia)]
   . rfl
noncomputable def sumTo(f:Nat->Nat):Nat->Nat
 |0=>0
 |n+1=>sumTo f n+f n
theorem rq(h:∀i,f i<=c):∀n,sumTo f n<=n*c
 |0=>aU _
 |n+1=>by have:=rq h n;have:=h n;refine eW (uz ..) ?_;show sumTo f n+f n<=_;lia
theorem AK{g:Nat->Nat}:∀n,(∀i,i<n->f i=g i)->sumTo f n=sumTo g n
 |0,_=>rfl
 |n+1,h=>by show sumTo f n+f n=sumTo g n+g n;rw[AK n λi hi=>h i (by lia),h n (by lia)]
theorem AJ{u x y:Nat}(l:u+x=v+y)(h:y<x):u<v:=Nat.lt_of_add_lt_add_right (n:=x) (l▸eR h v)
theorem JO{n:Nat}(hi:i<n):n-1-i<n:=aQ (pf _ _) (Mx (aQ (aU _) hi) IA)
theorem NK{n:Nat}(hi:i<n):n-1-(n-1-i)=i:=ou (ID hi)
theorem oG{g:Nat->Nat}(hg:∀j,j≠i->g j=f j):∀n,i<n->sumTo g n+f i=sumTo f n+g i
 |0,h=>absurd h (dy _)
 |n+1,h=>by
  show sumTo g n+g n+f i=sumTo f n+f n+g i;by_cases q:i=n
  . subst q;rw[AK i λj hj=>hg j (by lia)];lia
  . have:=oG hg n (by lia);refine eW (hg n (λc=>q c.symm)) ?_;lia
abbrev oT(p:Nat×Nat):FV:=.tup [nI p.1,nI p.2]
abbrev fU(n:Nat)(f:Nat->List Nat):FV:=.list ((ae n).map λi=>nL (f i))
noncomputable def Qu:IG:=.emit (.tup (.cons (.var 0) (.cons (.var 1) .nil)))
def pairF(C:my)(a:List Slot×List FV×WL)(v:FV):Option (List Slot×List FV×WL):=(c6 a.1 [1] v).bind λf_=>(fI C .nil f_ a.2.2).bind λt=>if t.1 then HW C Qu f_ a.2.1 t.2 else some (f_,a.2.1,t.2)
def xT(n:Nat)(A:Nat->List Nat)(y0 y1:Slot):List Slot:=[y0,y1,.ro (fU n A)]
theorem J9{n:Nat}(l:List Nat):∀(y:Slot)(acc:List FV),Y y->∃y',Y y'/\kh (pairF C) (l.map nI) (xT n A (.val (nI i)) y,acc,wl)=some (xT n A (.val (nI i)) y',acc++(l.map λt=>(i,t)).map oT,wl):=by
 induction l with
 |nil=>exactλy acc hy=>⟨y,hy,(congrArg (λz=>some (xT n A (.val (nI i)) y,z,wl)) (cC acc)).symm⟩
 |cons t l ih=>exactλy acc hy=>bS (ih (.val (nI t)) (acc++[oT (i,t)]) (.va _)) λy' Te e=>⟨y',Te,(bs (by cases hy<;>rfl) e).trans (congrArg (λz=>some (xT n A (.val (nI i)) y',z,wl)) (gZ acc [oT (i,t)] _))⟩
theorem Hn{n:Nat}(hn:n<=100)(hA:∀i,i<n->(A i).length<=16)(L:List Nat):(∀i∈L,i<n)->∀(y0 y1:Slot)(acc:List FV),Y y0->Y y1->
 ∃sQ,kh (cF C .nil (.gen (.idx (.var 2) (.var 0)) [1] .nil Qu)) (L.map nI) (xT n A y0 y1,acc,wl)=some (sQ,acc++(L.flatMap λi=>(A i).map λt=>(i,t)).map oT,wl):=by
 induction L with
 |nil=>exactλ_ y0 y1 acc _ _=>⟨xT n A y0 y1,(congrArg (λz=>some (xT n A y0 y1,z,wl)) (cC acc)).symm⟩
 |cons i L ih=>
  intro hL y0 y1 acc h0 h1
  have hi:=hL i a7
  have hb:c6 (xT n A y0 y1) [0] (nI i)=some (xT n A (.val (nI i)) y1):=by cases h0<;>rfl
  have h5:ev C (.idx (.var 2) (.var 0)) (xT n A (.val (nI i)) y1) wl=some (.fv (nL (A i)),wl):=de (x:=.fv (fU n A)) (y:=.fv (nI i)) rfl rfl (fx (eD hi) (az hi (ak hn (by decide))));refine bS (J9 (C:=C) (wl:=wl) (n:=n) (A:=A) (i:=i) (A i) y1 acc h1) λy' Te e=>xE (ih (λj hj=>hL j (aW i hj)) (.val (nI i)) y' (acc++((A i).map λt=>(i,t)).map oT) (.va _) Te) λsQ e2=>⟨sQ,(bs (bs hb (bs yL ((if_pos rfl).trans (z5.trans (bs h5 (bs (d9 (ak (hA i hi) (by decide))) e)))))) e2).trans (congrArg (λz=>some (sQ,z,wl)) ?_)⟩;exact eW uc<|eW bf<|eW (gZ ..) rfl
theorem pairs_len(L:List Nat):(∀i∈L,(A i).length<=16)->(L.flatMap λi=>(A i).map λt=>(i,t)).length<=L.length*16:=by
 induction L with
 |nil=>exactλ_=>aU _
 |cons i L ih=>
  intro h
  have h1:=h i a7
  have h2:=ih λj hj=>h j (aW i hj);exact eW uc<|eW aJ<|eW (aj ..)<|eW u6<|eW (uz ..)<|eW (ph ..)<|j0 h2 h1
theorem Ei{n:Nat}{nx:FV}(hn:n<=100)(hA:∀i,i<n->(A i).length<=16)(h1:ev C (.bj .range false (.cons (.bj .len false (.cons (.var 0) .nil)) .nil)) fr wl=some (.fv (.range 0 n 1),wl))(h3:fX fr [1]=some [.ro (fU n A)]):
 ev C (.comp true 2 [1] (.bj .range false (.cons (.bj .len false (.cons (.var 0) .nil)) .nil)) [0] .nil (.gen (.idx (.var 2) (.var 0)) [1] .nil (.emit (.tup (.cons (.var 0) (.cons (.var 1) .nil)))))) fr wl=
  some (.own (.ob (.list (((ae n).flatMap λi=>(A i).map λt=>(i,t)).map oT))),wl):=
 xE (Hn hn hA (ae n) (λi hi=>aC.mp hi) .unset .unset [] .un .un) λsQ e=>z3.trans (bs h1 (bs (cN (ak hn (by decide))) (bs h3 (bs e (if_pos (decide_eq_true (ak (bh (aj _)) (ak (pairs_len _ λi hi=>hA i (aC.mp hi)) (ak (ij 16 (ak (bh aq) hn)) (by decide))))))))))
noncomputable def cP:IB->IB
 |.cons (.while _ b) _=>b
 |.cons _ r=>cP r
 |.nil=>.nil
abbrev ins(f:Nat->List Nat):Nat->Nat->Prop:=λi t=>t∈f i
structure Wk(n:Nat)(nx A Ly F:Nat->List Nat)(Wt:List (Nat×Nat)):Prop where
 CE:∀i,i<n->(F i).Nodup/\∀t∈F i,t<64/\kX n nx (ins A) (ins Ly) i t
 wt:∀p∈Wt,p.1<n/\p.2<64/\kX n nx (ins A) (ins Ly) p.1 p.2
 ask:∀i t,i<n->t∈A i->t∈F i\/(i,t)∈Wt
 back:∀i j t,i<n->j∈nx i->t∈F j->t∉Ly i->t∈F i\/(i,t)∈Wt
def MK(n:Nat)(F:Nat->List Nat)(Wt:List (Nat×Nat)):Nat:=sumTo (λi=>64-(F i).length) n*(n+1)+Wt.length
noncomputable def ma(n:Nat)(nx:Nat->List Nat)(i:Nat):List Nat:=(ae n).filter λo=>decide (i∈nx o)
def nv(n:Nat)(nx Ly:Nat->List Nat)(i t:Nat):List (Nat×Nat):=((ma n nx i).filter λo=> !decide (t∈Ly o)).map λo=>(o,t)
section
variable {n:Nat}{Ly:Nat->List Nat}{Wt:List (Nat×Nat)}
theorem FH{α β:Type}{W:List (α×β)}{i i':α}{t t':β}(q:(i',t')∈W++[(i,t)])(k:(i',t')∈W->P)(l:i'=i->t'=t->P):P:=
 (cq.mp q).elim k λq=>l (gd (aI.mp q)).1 (gd (aI.mp q)).2
theorem Wk.skip(h:Wk n nx A Ly F (Wt++[(i,t)]))(hf:t∈F i):Wk n nx A Ly F Wt:=
 have drop:∀i' t',t'∈F i'\/(i',t')∈Wt++[(i,t)]->t'∈F i'\/(i',t')∈Wt:=λi' t' q=>q.elim .inl λq=>FH q .inr λe1 e2=>.inl (e1▸e2▸hf)
 ⟨h.CE,λp hp=>h.wt p (dr _ hp),λi t hi ht=>drop _ _ (h.ask i t hi ht),λi j t hi hj ht hl=>drop _ _ (h.back i j t hi hj ht hl)⟩
theorem sD{o:Nat}:o∈ma n nx i↔o<n/\i∈nx o:=eO.trans (and_congr aC decide_eq_true_iff)
theorem Dy{o:Nat}(h1:o<n)(h2:i∈nx o)(h3:t∉Ly o):(o,t)∈nv n nx Ly i t:=bO.mpr ⟨o,eO.mpr ⟨sD.mpr ⟨h1,h2⟩,by exact eW (decide_eq_false h3) rfl⟩,rfl⟩
theorem tm:(ma n nx i).length<=n:=ak (dF _ _) (bh aq)
theorem vr:(nv n nx Ly i t).length<=n:=ak (bh (aj _)) (ak (dF _ _) tm)
theorem vD(a:l.Nodup)(hf:t∉l):(l++[t]).Nodup:=mW.mpr ⟨a,cp.mpr ⟨a8,eC⟩,λx hx y hy c=>hf (aI.mp hy▸c▸hx)⟩
theorem uM{i' t':Nat}:t'∈upd F i (F i++[t]) i'↔t'∈F i'\/i'=i/\t'=t:=by
 by_cases e:i'=i
 . subst e;exact eW d8<|iW cq<|iW aI<|or_congr Iff.rfl ⟨λh=>⟨rfl,h⟩,λh=>h.2⟩
 . exact eW (gi e)<|⟨.inl,λh=>h.resolve_right λc=>e c.1⟩
theorem Wk.grow(h:Wk n nx A Ly F (Wt++[(i,t)]))(hf:t∉F i):Wk n nx A Ly (upd F i (F i++[t])) (Wt++nv n nx Ly i t):=
 jN (h.wt (i,t) (dE _ (cU _))) λhi ht hL=>
 have drop:∀i' t',t'∈F i'\/(i',t')∈Wt++[(i,t)]->t'∈upd F i (F i++[t]) i'\/(i',t')∈Wt++nv n nx Ly i t:=λi' t' q=>q.elim (λq=>.inl (uM.mpr (.inl q))) λq=>FH q (λq=>.inr (dr _ q)) λe1 e2=>.inl (uM.mpr (.inr ⟨e1,e2⟩))
 {CE:=λi' pN=>⟨if e:i'=i then by subst e;exact eW d8<|vD (h.CE i' pN).1 hf else(gi (f:=F) (v:=F i++[t]) e).symm▸(h.CE i' pN).1,
   λt' ZZ=>(uM.mp ZZ).elim ((h.CE i' pN).2 t') λe=>e.1▸e.2▸⟨ht,hL⟩⟩
  wt:=λp hp=>(cq.mp hp).elim (λq=>h.wt p (dr _ q)) λq=>bS (bO.mp q) λo ho e=>e▸xA (eO.mp ho) λh1 h2=>xA (sD.mp h1) λh3 h4=>⟨h3,ht,.back h3 h4 hL λc=>by rw[decide_eq_true c]at h2;exact ff h2⟩
  ask:=λi t hi ht=>drop _ _ (h.ask i t hi ht)
  back:=λi' j t' pN hj ZZ hl=>(uM.mp ZZ).elim (λq=>drop _ _ (h.back i' j t' pN hj q hl)) λe=>.inr (dE _ (e.2▸Dy pN (e.1▸hj) (e.2▸hl)))}
theorem Wk.less(h:Wk n nx A Ly F (Wt++[(i,t)]))(hf:t∉F i):MK n (upd F i (F i++[t])) (Wt++nv n nx Ly i t)<MK n F (Wt++[(i,t)]):=by
 refine jN (h.wt (i,t) (dE _ (cU _))) λhi ht _=>?_;refine xA (h.CE i hi) λa b=>?_
 have l1:(F i++[t]).length<=(ae 64).length:=jA (vD a hf) λx hx=>aC.mpr ((cq.mp hx).elim (λq=>(b x q).1) λq=>aI.mp q▸ht);rw[aq,aJ,pW]at l1
 have l2:=vr (n:=n) (nx:=nx) (Ly:=Ly) (i:=i) (t:=t)
 have l3:=oG (f:=λi=>64-(F i).length) (g:=λj=>64-(upd F i (F i++[t]) j).length) (i:=i) (λj hj=>by exact eW (gi hj) rfl) n hi;rw[d8,aJ,pW]at l3;unfold MK;refine eW aJ<|eW aJ<|eW pW ?_;generalize sumTo (λj=>64-(upd F i (F i++[t]) j).length) n=u at l3⊢;generalize sumTo (λi=>64-(F i).length) n=v at l3⊢;rw[show 64-(F i).length=64-((F i).length+1)+1 from(mz (Nat.sub_pos_of_lt l1)).symm]at l3
 have l4:v=u+1:=qV (l3.symm.trans ((congrArg (u+·) (ph _ 1)).trans (fc u 1 _).symm));rw[l4,uz,fc];exact eR (by lia) _
end
def MQ(n:Nat)(nx A Ly:Nat->List Nat)(a:(Nat->List Nat)×List (Nat×Nat)×Slot×Slot):List Slot:=
 [.val (fU n nx),.val (fU n A),.val (fU n Ly),.own (.gu ((ae n).map λi=>(a.1 i).map nI)),.val (fU n (ma n nx)),.own (.ob (.list (a.2.1.map oT))),a.2.2.1,a.2.2.2]
section
variable {n:Nat}{Ly:Nat->List Nat}
theorem zg(f:Nat->List Nat):((ae n).map λi=>nL (f i)).length=n:=(aj _).trans aq
theorem GN(hn:n<=10)(f:Nat->List Nat):items (.fv (fU n f))=some ((ae n).map λi=>nL (f i)):=rF (by exact eW (zg ..)<|ll hn rfl)
theorem CW(hn:n<=10)(v:ev C (.var s) fr wl=some (.fv (fU n nx),wl)):ev C (.bj .range false (.cons (.bj .len false (.cons (.var s) .nil)) .nil)) fr wl=some (.fv (.range 0 n 1),wl):=by
 have:=nE (xs:=(ae n).map λi=>nL (nx i)) (by exact eW (zg ..)<|ll hn rfl);rw[zg]at this;exact cK (ah (cK (ah v aE) this) aE) rfl
theorem vf(hn:n<=10){f:Nat->List Nat}(hi:i<n)(h1:ev C (.var a) fr wl=some (.fv (fU n f),wl))(h2:ev C (.var b) fr wl=some (.fv (nI i),wl)):ev C (.idx (.var a) (.var b)) fr wl=some (.fv (nL (f i)),wl):=
 de h1 h2 (fx (eD hi) (RR hi hn rfl))
theorem MJ{b:Bool}(h:eK C e fr wl=some (b,wl)):fI C (.cons e .nil) fr wl=some (b,wl):=b.casesOn (motive:=λb=>eK C e fr wl=some (b,wl)->fI C (.cons e .nil) fr wl=some (b,wl)) d6 (λh=>dR h pC) h
theorem GO(hn:n<=10)(h:ev C (.var 0) fr wl=some (.fv (fU n nx),wl))(h':fX fr [0]=some [.ro (fU n nx)]):ev C (.comp false 1 [0] (.bj .range false (.cons (.bj .len false (.cons (.var 0) .nil)) .nil)) [0] .nil (.emit (.comp false 1 [0,1] (.bj .range false (.cons (.bj .len false (.cons (.var 1) .nil)) .nil)) [0] (.cons (.cmp .In (.var 1) (.idx (.var 2) (.var 0))) .nil) (.emit (.var 0))))) fr wl=some (.fv (fU n (ma n nx)),wl):=
 have l:(ae n).length<=2^20:=ll (ak (bh aq) hn) rfl
 comp_map (own:=false) nI (ae n) (CW hn h) (cN (ll hn rfl)) h' (λi=>nL (ma n nx i)) (λi hi=>gA (own:=false) nI (ae n) (CW hn (s:=1) rfl) (cN (ll hn rfl)) rfl (λo=>decide (i∈nx o)) nI (λo ho=>MJ (fJ (x:=.fv (nI i)) rfl (vf hn (f:=nx) (a:=2) (b:=0) (aC.mp ho) rfl rfl) (nz i (nx o)))) (λ_ _ _=>rfl) l) l
noncomputable def tj(n:Nat)(A:Nat->List Nat):List (Nat×Nat):=(ae n).flatMap λi=>(A i).map λt=>(i,t)
theorem vL{p:Nat×Nat}:p∈tj n A↔p.1<n/\p.2∈A p.1:=
 List.mem_flatMap.trans ⟨λh=>bS h λi hi h=>bS (bO.mp h) λt ht e=>e▸⟨aC.mp hi,ht⟩,λh=>⟨p.1,aC.mpr h.1,bO.mpr ⟨p.2,h.2,rfl⟩⟩⟩
theorem DB:∀n,(∀i,i<n->(A i).length<=16)->(tj n A).length<=n*16:=λn=>by
 induction n with
 |zero=>exactλ_=>aU _
 |succ n ih=>
  intro hA;unfold tj;exact eW dJ<|eW List.flatMap_append<|eW aJ<|eW (uz ..)<|j0 (ih λi hi=>hA i (dm hi)) (by exact eW uc<|eW List.flatMap_nil<|eW (cC ..)<|eW (aj ..)<|hA n (bg n))
theorem Wk.room{Wt:List (Nat×Nat)}(h:Wk n nx A Ly F Wt)(hi:i<n):(F i).length<=64:=
 ak (jA (l₂:=ae 64) (h.CE i hi).1 λx hx=>aC.mpr ((h.CE i hi).2 x hx).1) (bh aq)
def WI(n:Nat)(nx A Ly:Nat->List Nat)(a:(Nat->List Nat)×List (Nat×Nat)×Slot×Slot):Prop:=Wk n nx A Ly a.1 a.2.1/\MK n a.1 a.2.1<=15000/\Y a.2.2.1/\Y a.2.2.2
theorem AS(hn:n<=10){a:(Nat->List Nat)×List (Nat×Nat)×Slot×Slot}:WI n nx A Ly a->(!a.2.1.isEmpty)=true->
 yZ (hU (au N k) N (cP (bodyOf ml)) (MQ n nx A Ly a,wl)) (MQ n nx A Ly) (λ_=>wl) λa'=>WI n nx A Ly a'/\MK n a'.1 a'.2.1<MK n a.1 a.2.1:=
 NY a λF Wt s6 s7 hI hT=>fA hI λhK hM h6 h7=>by
  clear hI;rcases ET Wt with rfl|⟨pR,⟨i,t⟩,rfl⟩
  . exact ff hT
  rw[EW]at hK hM⊢;clear hT;refine jN (hK.wt (i,t) (dE _ (cU _))) λhi ht _=>?_
  have hlen:pR.length+1<=15000:=aJ (bs:=[(i,t)])▸ak (jg _ _) hM
  have pop:ex (au N k) N (.pop [6,7] false 5) (MQ n nx A Ly (F,pR++[(i,t)],s6,s7),wl)=some (.next,MQ n nx A Ly (F,pR,.val (nI i),.val (nI t)),wl):=
   T' (ys:=pR.map oT) (d1:=nI i) (d2:=nI t) (congrArg (λl=>some (Slot.own (.ob (.list l)))) bf) (by exact eW aJ<|eW (aj ..)<|ll hlen rfl) (by cases h6<;>cases h7<;>rfl)
  have test:eK (au N k) (.cmp .NotIn (.var 7) (.idx (.var 3) (.var 6))) (MQ n nx A Ly (F,pR,.val (nI i),.val (nI t))) wl=some (!decide (t∈F i),wl):=
   fJ rfl (de (r:=.bor (.ob (.list ((F i).map nI)))) rfl rfl (Ta (eD hi) (RR hi hn rfl))) (by
    show(j6 (t:Int) ((F i).map nI)).map (!·)=_;exact eW (nz ..) rfl)
  by_cases hf:t∈F i
  . rw[decide_eq_true hf]at test
    have lt:MK n F pR<MK n F (pR++[(i,t)]):=eR (jy (bg pR.length) (aJ (bs:=[(i,t)])).symm) _;exact .mk .next (F,pR,.val (nI i),.val (nI t)) (ao pop (ao (bl test aY) aY)) fw ⟨⟨hK.skip hf,ak (bW lt) hM,.va _,.va _⟩,lt⟩
  . rw[decide_eq_false hf]at test
    have less:=hK.less hf;refine .mk .next (upd F i (F i++[t]),pR++nv n nx Ly i t,.val (nI i),.val (nI t)) (ao pop (ao (cz test (ao (EF (n:=i) (d:=nI t) (xs:=(F i).map nI) rfl rfl (eD hi) (RR hi hn rfl) rfl (by refine eW (aj ..) ?_;exact ll (hK.room hi) rfl)) (ao (pS (w1:=wl) (ds:=(nv n nx Ly i t).map oT) (xs:=pR.map oT) rfl ?_ (decide_eq_true (by exact eW (aj ..)<|eW (aj ..)<|ll (j0 (fN hlen) (ak vr hn)) rfl))) ?_))) aY)) fw ⟨⟨hK.grow hf,ak (bW less) hM,.va _,.va _⟩,less⟩
    . refine(gA (C:=au N k) (wl:=wl) (fr:=(MQ n nx A Ly (F,pR,.val (nI i),.val (nI t))).set 3 (.own (.gu (((ae n).map λi=>(F i).map nI).set i ((F i).map nI++[nI t]))))) (own:=false) nI (ma n nx i) (aX:=[2,7]) (it:=.idx (.var 4) (.var 6)) (e:=.tup (.cons (.var 0) (.cons (.var 2) .nil))) (ifs:=.cons (.cmp .NotIn (.var 2) (.idx (.var 1) (.var 0))) .nil) (vf hn (f:=ma n nx) (a:=4) (b:=6) hi rfl rfl) (d9 (ll (ak tm hn) rfl)) rfl (λo=> !decide (t∈Ly o)) (λo=>oT (o,t)) (λo ho=>MJ (fJ rfl (vf hn (f:=Ly) (a:=1) (b:=0) (sD.mp ho).1 rfl rfl) (by
       show(j6 (t:Int) ((Ly o).map nI)).map (!·)=_;exact eW (nz ..) rfl))) (λ_ _ _=>rfl) (ll (ak tm hn) rfl)).trans ?_
      rw[if_neg ay,nv,bH];rfl
    . have h1:=zl (n:=n) (f:=F) (F:=Rx nI) (i:=i) (v:=F i++[t])
      rw[bf]at h1
      show _=some (Fl.next,MQ n nx A Ly (upd F i (F i++[t]),pR++nv n nx Ly i t,_,_),wl);unfold MQ;exact eL h1<|eW bf rfl
theorem tW(hn:n<=10)(hN:20000<=N)(hA:∀i,i<n->(A i).length<=16/\∀t∈A i,t<64):
 ∃F:Nat->List Nat,(∀i,i<n->(F i).Nodup/\(∀t∈F i,t<64)/\∀t,t∈F i↔kX n nx (ins A) (ins Ly) i t)/\au N (k+1) (.obj 732) [.fv (fU n nx),.fv (fU n A),.fv (fU n Ly)] wl=some (fU n F,wl):=by
 have e3:∀fr,fr[0]?=some (.val (fU n nx))->ev (au N k) (.sX 1 [] (.var 0) 0) fr wl=some (.own (.gu ((ae n).map λ_=>([]:List Nat).map nI)),wl):=λfr h=>by
  refine eW HV<|eW fi<|eW h ?_
  show(items (.fv (fU n nx))).bind _=_;refine eW (GN hn ..) ?_
  show some (EV.own (.gu (((ae n).map λi=>nL (nx i)).map λ_=>[])),wl)=_;exact eW bH rfl
 have m0:MK n (λ_=>[]) (tj n A)<=15000:=ak (j0 (Nat.mul_le_mul (ak (rq (c:=64) (λ_=>aT _) n) (ij 64 hn)) (cB hn)) (ak (DB n λi hi=>(hA i hi).1) (ij 16 hn))) (av rfl);refine si (C:=au N k) (N:=N) (wl:=wl) (fr:=MQ n nx A Ly (λ_=>[],tj n A,.unset,.unset)) (MQ n nx A Ly) (λ_=>wl) (WI n nx A Ly) (λa=>MK n a.1 a.2.1) (λ_=>[],tj n A,.unset,.unset) (t:=.cmp .NotEq (.var 5) (.lst false .nil)) (b:=cP (bodyOf ml)) rfl rfl
  ⟨⟨λi _=>⟨eC,λt h=>absurd h a8⟩,λp hp=>xA (vL.mp hp) λh1 h2=>⟨h1,(hA _ h1).2 _ h2,.ask h1 h2⟩,λi t hi ht=>.inr (vL.mpr ⟨hi,ht⟩),λi j t _ _ ht _=>absurd ht a8⟩,m0,.un,.un⟩ (aQ m0 (az (by decide) hN))
  (λa=> !a.2.1.isEmpty) (λa=>NY a λF Wt s6 s7 _=>by
    induction Wt using bP with
    |nil=>exact fJ rfl rfl rfl
    |cons p r=>exact fJ rfl rfl rfl) (λa=>AS hn) λa=>NY a λF Wt s6 s7 hI hT e=>?_
 obtain rfl:Wt=[]:=Wt.casesOn (motive:=λW=>(!W.isEmpty)=false->W=[]) (λ_=>rfl) (λ_ _ h=>ff h.symm) hT
 have hK:Wk n nx A Ly F []:=hI.1;refine⟨F,λi hi=>⟨(hK.CE i hi).1,λt ht=>((hK.CE i hi).2 t ht).1,λt=>⟨λht=>((hK.CE i hi).2 t ht).2,λh=>h.least (F:=λi t=>t∈F i) (λi t hi ht=>(hK.ask i t hi ht).resolve_right a8) λi j t hi hj ht hl=>(hK.back i j t hi hj ht hl).resolve_right a8⟩⟩,?_⟩;refine cM rfl<|bt rfl rfl<|ao (gD (e3 _ rfl) rfl)<|ao (aZ (GO hn rfl rfl) rfl)<|ao (gD (Ei (nx:=fU n nx) (ll hn rfl) (λi hi=>(hA i hi).1) (CW hn (s:=0) rfl) rfl) rfl)<|ao e<|ao rfl<|br (bZ ?_)
 show some (EV.fv (.list (((ae n).map λi=>(F i).map nI).map FV.list)),wl)=_;exact eW bH rfl
end
def rowAt(R:List Row)(i:Nat):Row:=R[i]?.getD oR
theorem iz{R:List Row}(h:i<R.length):R[i]?=some (rowAt R i):=by unfold rowAt;refine eW (aV h) ?_;rfl
theorem pI{R:List Row}(h:i<R.length):rowAt R i∈R:=aF (iz h)
theorem vO{α:Type}(g:Row->α)(R:List Row):R.map g=(ae R.length).map λi=>g (rowAt R i):=by
 apply Mz;intro j;by_cases hj:j<R.length
 . refine eW (eD hj)<|eW fK<|eW (iz hj) ?_;rfl
 . rw[ba (by rw[aj];lia),ba (by rw[aj,aq];lia)]
theorem qD{R:List Row}(h:R.length<=1000):items (.fv (.list (dO R)))=some (R.map Row.fv):=rF (by refine eW (aj ..) ?_;lia)
theorem kj{l:List FV}(h:l.length<=1000):items (.fv (.list l))=some l:=rF (by lia)
theorem wJ{f:Nat}{os:List Int}(hl:os.length<=8)(ho:∀o∈os,-512<=o/\o<= -1)(h:ev C (.idx (.var 0) (.lit (nI f))) fr wl=some (.fv (.list (os.map .int)),wl)):
 ev C (.comp false 1 [] (.idx (.var 0) (.lit (nI f))) [0] .nil (.emit (.bin .FloorDiv (.bin .Sub (.un .USub (.var 0)) (.lit (.int 1))) (.lit (.int 8))))) fr wl=some (.fv (nL (os.map dG)),wl):=by
 have:=comp_map (own:=false) FV.int os h (kj (by refine eW (aj ..) ?_;lia)) (cs:=[]) (aX:=[]) rfl (λo=>nI (dG o)) (e:=.bin .FloorDiv (.bin .Sub (.un .USub (.var 0)) (.lit (.int 1))) (.lit (.int 8))) (λo h=>by
  have h1:=ho o h;refine dh (dh (Ye rfl rfl) rfl rfl) rfl ?_
  have:=Ee (a:=(-o-1).toNat) (m:=8) (by decide) (by decide);rw[nI,I0 (by lia)]at this;exact this) (by lia)
 rw[if_neg ay]at this;rw[nL,bH];exact this
theorem LJ{n:Nat}:PH (.fv (nL l)) [.fv (nI n)]=some (.fv (nI (l.count n))):=by
 have e:∀m:List Nat,(m.map λ(n:Nat)=>(n:Int)).count (n:Int)=m.count n:=λm=>by
  induction m with
  |nil=>rfl
  |cons x r ih=>
   rw[bT,Qi,Qi,ih];by_cases q:x=n
   . subst q;simp
   . have:((x:Int)==n)=false:=by rw[beq_eq_false_iff_ne];lia
     have h2:(x==n)=false:=by rw[beq_eq_false_iff_ne];exact q
     exact eW this<|eW h2 rfl
 refine bs (a:=[nI n]) rfl (bs (a:=[(n:Int)]) rfl (bs (a:=l.map nI) rfl (bs (jV l) ?_)))
 show some (EV.fv (.int (((l.map λ(n:Nat)=>(n:Int)).count (n:Int):Nat))))=_;exact eW (e ..) rfl
theorem En{R:List Row}(hR:∀r∈R,r.Ok N)(hn:R.length<=10)(hN:20000<=N):
 ∃F:Nat->List Nat,(∀i,i<R.length->(F i).Nodup/\(∀t∈F i,t<64)/\∀t,t∈F i↔kX R.length nx (ins λi=>(rowAt R i).rs.map dG) (ins λi=>whole ((rowAt R i).ws.map dG)) i t)/\
  au N (k+2) (.obj 737) [.fv (.list (dO R)),.fv (fU R.length nx)] wl=some (fU R.length F,wl):=by
 (refine bS (tW (N:=N) (k:=k) (wl:=wl) (n:=R.length) (nx:=nx) (A:=λi=>(rowAt R i).rs.map dG) (Ly:=λi=>whole ((rowAt R i).ws.map dG)) hn hN (λi hi=>by
   have:=hR _ (pI hi);refine⟨by refine eW (aj ..) ?_;have:=this.rs.1;lia,λt ht=>?_⟩;obtain⟨o,ho,rfl⟩:=bO.mp ht;exact zh (this.rs.2 o ho))) λF hF e=>?_)
 refine⟨F,hF,?_⟩
 have a1:∀fr,fr[0]?=some (.val (.list (dO R)))->ev (au N (k+1)) (.comp false 1 [] (.var 0) [0] .nil (.emit (.comp false 1 [] (.idx (.var 0) (.lit (.int 4))) [0] .nil (.emit (.bin .FloorDiv (.bin .Sub (.un .USub (.var 0)) (.lit (.int 1))) (.lit (.int 8))))))) fr wl=some (.fv (fU R.length λi=>(rowAt R i).rs.map dG),wl):=λfr h=>by
  have:=comp_map (own:=false) (C:=au N (k+1)) (wl:=wl) (fr:=fr) Row.fv R (aX:=[]) (cs:=[]) (it:=.var 0) (by exact eW fi<|eW h rfl) (qD (by lia)) rfl (λr=>nL (r.rs.map dG)) (e:=.comp false 1 [] (.idx (.var 0) (.lit (.int 4))) [0] .nil (.emit (.bin .FloorDiv (.bin .Sub (.un .USub (.var 0)) (.lit (.int 1))) (.lit (.int 8))))) (λr hr=>wJ (f:=4) (hR r hr).rs.1 (hR r hr).rs.2 rfl) (by lia)
  rwa[if_neg ay,vO]at this
 have a2:∀fr,fr[0]?=some (.val (.list (dO R)))->ev (au N (k+1)) (.comp false 1 [] (.var 0) [0] .nil (.emit (.comp false 1 [] (.idx (.var 0) (.lit (.int 5))) [0] .nil (.emit (.bin .FloorDiv (.bin .Sub (.un .USub (.var 0)) (.lit (.int 1))) (.lit (.int 8))))))) fr wl=some (.fv (.list (R.map λr=>nL (r.ws.map dG))),wl):=λfr h=>by
  have:=comp_map (own:=false) (C:=au N (k+1)) (wl:=wl) (fr:=fr) Row.fv R (aX:=[]) (cs:=[]) (it:=.var 0) (by exact eW fi<|eW h rfl) (qD (by lia)) rfl (λr=>nL (r.ws.map dG)) (e:=.comp false 1 [] (.idx (.var 0) (.lit (.int 5))) [0] .nil (.emit (.bin .FloorDiv (.bin .Sub (.un .USub (.var 0)) (.lit (.int 1))) (.lit (.int 8))))) (λr hr=>wJ (f:=5) (hR r hr).ws.1 (hR r hr).ws.2 rfl) (by lia)
  rwa[if_neg ay]at this
 have a3:∀fr,fr[3]?=some (.val (.list (R.map λr=>nL (r.ws.map dG))))->ev (au N (k+1)) (.comp false 1 [] (.var 3) [0] .nil (.emit (.comp false 1 [0] (.var 0) [0] (.cons (.cmp .Eq (.ef .count (.var 1) (.cons (.var 0) .nil)) (.lit (.int 8))) .nil) (.emit (.var 0))))) fr wl=some (.fv (fU R.length λi=>whole ((rowAt R i).ws.map dG)),wl):=λfr h=>by
  have:=comp_map (own:=false) (C:=au N (k+1)) (wl:=wl) (fr:=fr) (λr:Row=>nL (r.ws.map dG)) R (aX:=[]) (cs:=[]) (it:=.var 3) (by exact eW fi<|eW h rfl) (kj (by refine eW (aj ..) ?_;lia)) rfl (λr=>nL (whole (r.ws.map dG))) (e:=.comp false 1 [0] (.var 0) [0] (.cons (.cmp .Eq (.ef .count (.var 1) (.cons (.var 0) .nil)) (.lit (.int 8))) .nil) (.emit (.var 0))) (λr hr=>by
   have hl:(r.ws.map dG).length<=8:=by exact eW (aj ..)<|(hR r hr).ws.1
   exact gA (own:=false) nI (r.ws.map dG) (cs:=[.ro (nL (r.ws.map dG))]) rfl (d9 (by lia)) rfl (λs=>(r.ws.map dG).count s==8) nI (λs hs=>by
    have h:eK (au N (k+1)) (.cmp .Eq (.ef .count (.var 1) (.cons (.var 0) .nil)) (.lit (.int 8))) [.val (nI s),.ro (nL (r.ws.map dG))] wl=some ((r.ws.map dG).count s==8,wl):=gJ (x:=((r.ws.map dG).count s:Nat)) (y:=8) (by rw[cT,beq_iff_eq,beq_iff_eq];lia) (by
     exact eW Ls<|eW (show ev (au N (k+1)) (.var 1) [.val (nI s),.ro (nL (r.ws.map dG))] wl=some (.fv (nL (r.ws.map dG)),wl)from rfl)<|eW (bK ..)<|eW (show ox (au N (k+1)) (.cons (.var 0) .nil) [.val (nI s),.ro (nL (r.ws.map dG))] wl=some ([.fv (nI s)],wl)from rfl)<|eW (bK ..)<|eW LJ rfl) rfl
    induction q:((r.ws.map dG).count s==8)using ax with
    |true=>exact dR (q▸h) pC
    |false=>exact d6 (q▸h)) (λ_ _ _=>rfl) (by lia)) (by lia)
  rwa[if_neg ay,vO]at this
 exact cM rfl<|bt rfl rfl<|ao (aZ (a1 _ rfl) rfl)<|ao (aZ (a2 _ rfl) rfl)<|br<|bZ<|aG (ah rfl (ah rfl (ah (a3 _ rfl) aE))) e
theorem B'(h:l.Nodup)(hl:∀t∈l,t<64):au N (k+1) (.obj 742) [.fv (nL l)] wl=some (nI (bG l),wl):=by
 have len:l.length<=64:=by
  have:=jA (l₂:=ae 64) h λx hx=>aC.mpr (hl x hx)
  rwa[aq]at this
 have a:=comp_map (own:=false) (C:=au N k) (wl:=wl) (fr:=[.val (nL l)]) nI l (aX:=[]) (cs:=[]) (it:=.var 0) rfl (d9 (by lia)) rfl (λt=>nI (2^t)) (e:=.bin .Pow (.lit (.int 2)) (.var 0)) (λt ht=>dh rfl rfl (by
  have:=hl t ht
  show(if 0<=(t:Int)/\((dw 2:Nat):Int)*(t:Int)<=2^27 then some ((2:Int)^(t:Int).toNat)else ab).map (λr=>EV.fv (.int r))=_;rw[show dw 2=2 by decide+kernel,if_pos ⟨by lia,by lia⟩,cI];exact congrArg (λz=>some (EV.fv (.int z))) (yb 2 t).symm)) (by lia)
 rw[if_neg ay]at a;refine cM rfl<|bt rfl rfl<|br<|bZ<|cK (ah a aE) ?_
 have e1:l.map (λt=>nI (2^t))=(l.map λt=>2^t).map nI:=by exact eW bH rfl
 show((eZ (l.map λt=>nI (2^t))).bind λis=>if cg is.length=true then some (EV.fv (.int is.sum))else ab)=_;rw[e1,jV,bK,if_pos (show cg _=true from decide_eq_true (by rw[aj,aj];lia))]
 have e2:∀m:List Nat,(m.map λ(n:Nat)=>(n:Int)).sum=((m.sum:Nat):Int):=λm=>by
  induction m with
  |nil=>rfl
  |cons x r ih=>rw[bT,Av,Av,ih];lia
 exact eW (e2 ..)<|eW (AI l h) rfl
structure Prog where
 n:Nat
 m:Nat
 o:Nat->FV
 r:Nat->Row
 B:Nat->Nat
 P:Nat->Nat
 T:Nat->Nat
 C:Nat->Nat
structure Prog.Ok(N:Nat)(p:Prog):Prop where
 i2:p.n<=30
 m3:1<=p.m/\p.m<=3
 B0:p.B 0=0
 Bm:p.B p.m=p.n
 U0:∀j,j<p.m->p.B j<p.B (j+1)
 part:∀i,i<p.n->p.P i<p.m/\p.B (p.P i)<=i/\i<p.B (p.P i+1)
 ord:∀i,i<p.n->r9 N (p.r i) (p.o i) ((p.T i:Int)-i-1)
 Qs:∀i,i<p.n->(p.r i).Ok N
 f7:∀i,i<p.n->(p.r i).w=1\/(p.r i).w=2->p.T i<p.n/\p.P (p.T i)=p.P i
 call:∀i,i<p.n->(p.r i).w=4->p.P i+1<p.m/\p.T i=p.B (p.P i+1)/\i=p.C (p.P i)
 calls:∀j,j+1<p.m->p.B j<=p.C j/\p.C j<p.B (j+1)/\(p.r (p.C j)).w=4
 last:∀i,i<p.n->((p.r i).w=3↔i+1=p.B (p.P i+1))
 reach:∀i,i+1<p.n->(p.r i).w=2->∃j,j<i/\(p.r j).w=1/\p.T j=i+1
noncomputable abbrev fH(p:Prog):FV:=.list ((ae p.n).map p.o)
abbrev DZ(n:Nat):List (Int×FV):=(ae n).map λ(i:Nat)=>((i:Int),nI i)
def Prog.fv(p:Prog):FV:=.inst 490 [(0,fH p),(1,nL (ae p.n)),(2,.dict (DZ p.n)),(3,nI p.n),(4,nL ((ae p.m).map p.B))]
section
variable {p:Prog}(h:p.Ok N)
include h
theorem Prog.Ok.mono(D4:i<j)(hj:j<=p.m):p.B i<p.B j:=by
 induction j with
 |zero=>exact absurd D4 (dy _)
 |succ j ih=>
  have h1:=h.U0 j (by lia);rcases bE.mp D4 with q|q
  . exact dk (ih q (by lia)) h1
  . exact eW q<|h1
theorem Prog.Ok.le(D4:i<=j)(hj:j<=p.m):p.B i<=p.B j:=by
 rcases jx D4 with q|q
 . exact bW (h.mono q hj)
 . exact eW q<|aT _
theorem Prog.Ok.Ov(hj:j<p.m):p.B j<p.n:=by exact eL h.Bm<|h.mono hj (aT _)
theorem Prog.Ok.Iy(hi:i<p.n)(hj:j<p.m)(h1:p.B j<=i)(h2:i<p.B (j+1)):p.P i=j:=by
 (refine jN (h.part i hi) λa b c=>?_)
 rcases g8 (p.P i) j with q|q|q
 . have:=h.le (show p.P i+1<=j from q) (by lia);lia
 . exact q
 . have:=h.le (show j+1<=p.P i from q) (by lia);lia
theorem Prog.Ok.goal(hi:i<p.n)(hw:(p.r i).w=1\/(p.r i).w=2\/(p.r i).w=4):p.T i<p.n:=by
 rcases hw with q|q|q
 . exact(h.f7 i hi (.inl q)).1
 . exact(h.f7 i hi (.inr q)).1
 . obtain⟨a,b,-⟩:=h.call i hi q;exact eW b<|h.Ov a
theorem Prog.Ok.next(hi:i<p.n)(hw:(p.r i).w≠3):i+1<p.n/\p.P (i+1)=p.P i:=by
 (refine jN (h.part i hi) λa b c=>?_)
 have h1:i+1≠p.B (p.P i+1):=λq=>hw ((h.last i hi).mpr q)
 have h2:=h.le (show p.P i+1<=p.m by lia) (aT _);rw[h.Bm]at h2;exact⟨by lia,h.Iy (by lia) a (by lia) (by lia)⟩
end
theorem Hv(l:List Nat)(t:Nat):(l.map λ(i:Nat)=>((i:Int),nI i)).lookup (t:Int)=if t∈l then some (nI t)else none:=by
 induction l with
 |nil=>rfl
 |cons x r ih=>
  rw[bT,bL];by_cases q:t=x
  . subst q;rw[beq_self_eq_true];simp
  . have:((t:Int)==(x:Int))=false:=by rw[beq_eq_false_iff_ne];lia
    refine eW this<|eW ih ?_;simp[q]
theorem sF{n:Nat}(h:t<n):(DZ n).lookup (t:Int)=some (nI t):=by exact eW (Hv ..)<|eW (if_pos (aC.mpr h)) rfl
theorem yT{y0 y1:EV}{o:FV}(hx:x.arg.GX=some x)(h0:mr x 0=some y0)(h0':jq y0 (.fv (nI i)) wl=some (.fv o))(h1:mr x 1=some y1)(CD:jq y1 (.fv (nI i)) wl=some (.fv (nI i)))
 (hd:∀k wl,au N (k+10) (.obj 256) [.fv o] wl=some (.int ((t:Int)-i-1),wl)):au N (k+11) (.obj 461) [x,.fv (nI i)] wl=some (nI t,wl):=by
 have v:ev (au N (k+10)) (.var 0) [x.arg,.val (nI i)] wl=some (x,wl):=by
  show(x.arg.GX).map (λy=>(y,wl))=_;exact eW hx rfl
 refine cM (k:=k+10) rfl<|bt rfl rfl<|br<|bZ<|dh (dh (de (Am v h1) rfl CD) rfl rfl) (aG (ah (de (Am v h0) rfl h0') aE) (hd _ _)) ?_
 show some (EV.fv (.int ((i:Int)+1+((t:Int)-i-1))))=_;rw[show(i:Int)+1+((t:Int)-i-1)=t by lia]
theorem Bd(n:Nat):dD (DZ n) n (nI n)=DZ (n+1):=by
 have:∀(l:List Nat),n∉l->dD (l.map λ(i:Nat)=>((i:Int),nI i)) n (nI n)=(l.map λ(i:Nat)=>((i:Int),nI i))++[((n:Int),nI n)]:=λl=>by
  induction l with
  |nil=>exactλ_=>rfl
  |cons x r ih=>
   intro hl;rw[a6,not_or]at hl
   show(if(x:Int)=n then _ else _)=_;rw[if_neg (by lia),ih hl.2];rfl
 rw[this _ (by rw[aC];exact b9 n),DZ,dJ,bf];rfl
theorem E7:∀(l:List Int),l.Pairwise (·<=·)->fV l=l
 |[],_=>rfl
 |x::r,h=>by
  rw[gF]at h
  show insertSorted x (fV r)=_;refine eW (E7 r h.2) ?_;induction r using bP with
  |nil=>rfl
  |cons y r=>show(if x<=y then _ else _)=_;exact eW (if_pos (h.1 y (a7))) rfl
variable{p:Prog}
theorem Yf{g:bw}{args:List EV}{b:IB}{r:List Slot}(h1:FT a=ab)(h2:CT a=some g)(hb:g.body=.stmts b)(h0:lD g [] (.own (.inst a [])::args)=some fr)(h:hU (au N k) N b (fr,wl)=some (.next,.own (.inst c fs)::r,w1)):
 au N (k+1) (.obj a) args wl=some ((OT.inst c fs).fz,w1):=by
 show(FT a).elim _ _=_;refine eW h1 ?_
 show(CT a).bind _=_;refine eW h2 ?_
 show(lD g [] _).bind _=_;refine eW h0<|eW (bK ..)<|eW hb ?_
 show(hU _ _ _ _).bind made=_;exact eW h rfl
theorem Qw{f:Nat}{o:OB}(ho:fr[i]?=some (.own (.inst c fs)))(hf:fs.lookup f=some (.ob o)):kD C (.fld i f) fr wl=some ((o,λo'=>fr.set i (.own (.inst c (putField fs f (.ob o'))))),wl):=
 bs (bs ho rfl) (bs (a:=(c,fs)) rfl (ms (bs hf rfl)))
theorem T_{f:Nat}(ho:fr[i]?=some (.own (.inst c fs)))(hf:fs.lookup f=some (.ob (.list xs)))(h:ev C e fr wl=some (.fv d,wl))(hs:xs.length<=1000):
 ex C N (.append (.fld i f) e) (fr,wl)=some (.next,fr.set i (.own (.inst c (putField fs f (.ob (.list (xs++[d])))))),wl):=
 bs (Qw ho hf) (bs h (bs rfl (bs (a:=xs) rfl (if_pos (decide_eq_true (ak hs (by decide)))))))
theorem T9{f:Nat}{x:IE}{es:List (Int×FV)}{n:Int}(ho:fr[i]?=some (.own (.inst c fs)))(hf:fs.lookup f=some (.ob (.dict es)))(h:ev C e fr wl=some (.fv d,wl))(hx:ev C x fr wl=some (.fv (.int n),wl))(hs:es.length<=1000):
 ex C N (.fW (.fld i f) x e) (fr,wl)=some (.next,fr.set i (.own (.inst c (putField fs f (.ob (.dict (dD es n d)))))),wl):=
 bs h (bs (a:=d) rfl (bs (Qw ho hf) (bs hx (bs (a:=n) rfl (bs (a:=es) rfl (if_pos (decide_eq_true (ak hs (by decide)))))))))
theorem Mm{f:Nat}(ho:fr[i]?=some (.own (.inst c fs)))(h:ev C e fr wl=some (.fv d,wl))(hl:fs.length<900):ex C N (.setAttr i f e) (fr,wl)=some (.next,fr.set i (.own (.inst c (putField fs f (.fv d)))),wl):=
 bs h (bs (bs ho rfl) (bs (a:=(c,fs)) rfl ((if_pos hl).trans rfl)))
abbrev Va(p:Prog)(i:Nat):OT:=.inst 490 [(0,.fv (fH p)),(1,.ob (.list ((ae i).map nI))),(2,.ob (.dict (DZ i)))]
abbrev E9(p:Prog):OT:=.inst 490 [(0,.fv (fH p)),(1,.ob (.list ((ae p.n).map nI))),(2,.ob (.dict (DZ p.n))),(3,.fv (nI p.n))]
def Zd(p:Prog)(x:EV)(i:Nat)(y:Slot):List Slot:=[.own (Va p i),x.arg,.val (nI i),y,.unset]
def Yd(p:Prog)(x:EV)(c:Nat)(y:Slot):List Slot:=[.own (E9 p),x.arg,.val (nI p.n),y,.own (.ob (.set ((ae (c+1)).map λj=>(p.B j:Int))))]
theorem QE:((ae p.n).map p.o).length=p.n:=(aj _).trans aq
theorem Fb(h:p.Ok N)(h0:fr[0]?=some (.own (.inst c fs)))(h1:fs.lookup 0=some (.fv (fH p))):ev C (.bj .range false (.cons (.bj .len false (.cons (.attr (.var 0) 0) .nil)) .nil)) fr wl=some (.fv (.range 0 p.n 1),wl):=
 cK (ah (cK (ah (Am (x:=.bor (.inst c fs)) (by exact eW fi<|eW h0 rfl) (TX.trans (ms h1))) aE) ((nE (xs:=(ae p.n).map p.o) (ak (bh QE) (ak h.i2 (by decide)))).trans (congrArg (λn:Nat=>some (EV.fv (nI n))) QE))) aE) rfl
theorem get_or(h:p.Ok N)(hi:i<p.n):jq (.fv (fH p)) (.fv (nI i)) wl=some (.fv (p.o i)):=fx (eD hi) (dk (az hi h.i2) (by decide))
theorem SS(h:i<=30):((ae i).map nI).length<=1000:=ak (bh ((aj _).trans aq)) (ak h (by decide))
theorem OV(h:p.Ok N)(hi:i<p.n)(e:j=i):Turn (hU (au N (k+11)) N (bR (bodyOf dP)) (Zd p x j (.val (nI i)),wl)) (Zd p x) (λ_=>wl) λj'=>j'=i+1:=by
 subst e
 have hj:j<=30:=ak (bW hi) h.i2
 have wd:au N (k+11) (.obj 193) [.fv (p.o j)] wl=some (.bool false,wl):=(aL ((h.ord j hi).told (k+1) wl)).1;refine .next (j+1) (.val (nI j)) (ao (T_ (f:=1) (c:=490) rfl rfl rfl (SS hj))<|ao (T9 (f:=2) (c:=490) (n:=j) (d:=nI j) (fs:=[(0,.fv (fH p)),(1,.ob (.list ((ae j).map nI++[nI j]))),(2,.ob (.dict (DZ j)))]) rfl rfl rfl rfl (by refine eW (aj ..)<|eW aq ?_;exact ak hj (by decide)))<|
  ao (aZ (d:=nI (j+1)) (dh rfl (pA (jG rfl (aG (ah (de (x:=.fv (fH p)) rfl rfl (get_or h hi)) aE) wd)) rfl) rfl) rfl) ?_) (.va _) rfl
 have e1:(ae j).map nI++[nI j]=(ae (j+1)).map nI:=(congrArg (Rx nI) dJ).trans bf|>.symm
 exact eW (Bd ..)<|eW e1 rfl
structure I2(p:Prog)(i c:Nat):Prop where
 hc:c+1<=p.m
 hj:∀j,j+1<p.m->(p.C j<i↔j<c)
theorem I2.at(h:p.Ok N)(hi:i<p.n)(hw:(p.r i).w=4)(g:I2 p i c):c=p.P i:=by
 refine jN (h.call i hi hw) λq1 q2 q3=>?_;rcases g8 c (p.P i)with q|q|q
 . have h2:=(h.calls c (dk (xl q) q1)).2.1
   have h3:=h.le (show c+1<=p.P i from q) (bW (g9 q1));exact absurd ((g.hj c (dk (xl q) q1)).mp (az h2 (ak h3 (h.part i hi).2.1))) (b9 _)
 . exact q
 . have:=(g.hj _ q1).mpr q
   rw[<-q3]at this;exact absurd this (b9 _)
theorem I2.hit(h:p.Ok N)(hi:i<p.n)(hw:(p.r i).w=4)(g:I2 p i (p.P i)):I2 p (i+1) (p.P i+1):=
 jN (h.call i hi hw) λq1 q2 q3=>⟨q1,λj hj=>⟨λq=>(bE.mp q).elim (λq=>dm ((g.hj j hj).mp q)) λq=>jN (h.calls j hj) λa1 a2 _=>dZ (bh (h.Iy hi (g9 hj) (q▸a1) (q▸a2)).symm),
  λq=>(bE.mp q).elim (λq=>dm ((g.hj j hj).mpr q)) λq=>dZ (bh ((congrArg p.C q).trans q3.symm))⟩⟩
theorem I2.miss(h:p.Ok N)(hw:(p.r i).w≠4)(g:I2 p i c):I2 p (i+1) c:=
 ⟨g.hc,λj hj=>⟨λq=>(g.hj j hj).mp ((bE.mp q).elim id λq=>absurd (q▸(h.calls j hj).2.2) hw),λq=>dm ((g.hj j hj).mpr q)⟩⟩
theorem XJ(h:p.Ok N)(hm:p.P i+1<p.m)(ht:p.T i=p.B (p.P i+1)):jv ((ae (p.P i+1)).map λj=>(p.B j:Int)) (p.T i)=(ae (p.P i+1+1)).map λj=>(p.B j:Int):=by
 unfold jv;rw[if_neg,dJ (n:=p.P i+1),bf,ht];rfl;rw[gS];exactλq=>bS (bO.mp q) λj hj e=>bx (h.mono (i:=j) (j:=p.P i+1) (aC.mp hj) (bW hm)) (pX (e.trans (congrArg Int.ofNat ht)))
theorem KV(h:p.Ok N)(hi:i<p.n)(hw:(p.r i).w=4)(h0:fr[0]?=some (.own (E9 p)))(h3:fr[3]?=some (.val (nI i))):ev (au N (k+11)) (.ef (.user 21) (.var 0) (.cons (.var 3) .nil)) fr wl=some (.fv (nI (p.T i)),wl):=
 fm (x:=.bor (E9 p)) (c:=490) (a:=461) (by exact eW fi<|eW h0 rfl) (ah (by exact eW fi<|eW h3 rfl) aE) rfl rfl (yT (y0:=.fv (fH p)) (y1:=.bor (.ob (.list ((ae p.n).map nI)))) rfl rfl (get_or h hi) rfl (nJ (eD hi) (dk (az hi h.i2) (by decide))) ((h.ord i hi).dist (.inr (.inr hw))))
theorem FC(hT:t<p.n):((DZ p.n).lookup (t:Int))=some (nI t):=sF hT
theorem OU(h:p.Ok N)(hi:i<p.n)(g:I2 p i c):Turn (hU (au N (k+11)) N (bR (lZ 6 (bodyOf dP))) (Yd p x c (.val (nI i)),wl)) (Yd p x) (λ_=>wl) (I2 p (i+1)):=by
 have t1:eK (au N (k+11)) (.call (.bc (.obj 214)) (.cons (.idx (.attr (.var 0) 0) (.var 3)) .nil)) (Yd p x c (.val (nI i))) wl=some ((p.r i).w==4,wl):=jG rfl (aG (ah (de (x:=.fv (fH p)) rfl rfl (get_or h hi)) aE) (ag (kA ((h.ord i hi).told (k+1) wl) 4)));by_cases hw:(p.r i).w=4
 . rw[hw]at t1
   have e:=g.at h hi hw;subst e;refine jN (h.call i hi hw) λq1 q2 q3=>?_
   have hT:p.T i<p.n:=q2▸h.Ov q1
   have m3:=h.m3.2;refine .next (p.P i+1) (.val (nI i)) (ao (cz (qL t1 (fJ (r:=true) (KV h hi hw rfl rfl) (y:=.bor (.ob (.dict (DZ p.n)))) rfl (congrArg (λo:Option FV=>some o.isSome) (FC hT)))) (ao (EG (k:=(p.T i:Int)) (xs:=(ae (p.P i+1)).map λj=>(p.B j:Int)) rfl (de (x:=.bor (.ob (.dict (DZ p.n)))) rfl (KV h hi hw rfl rfl) (congrArg (λo:Option FV=>o.map EV.fv) (FC hT))) ⟨by refine eW (aj ..)<|eW aq ?_;exact az q1 (ak m3 (by decide)),bJ _,dn.mpr (az hT (ak h.i2 (by decide)))⟩) aY)) ?_) (.va _) (g.hit h hi hw)
   exact eW (XJ h q1 q2) rfl
 . rw[show((p.r i).w==4)=false from beq_eq_false_iff_ne.mpr hw]at t1
   exact .next c (.val (nI i)) (ao (bl (jH (d6 t1)) aY) aY) (.va _) (g.miss h hw)
theorem I2.done(h:p.Ok N)(g:I2 p p.n c):c+1=p.m:=
 (jx g.hc).elim (λq=>absurd ((g.hj c q).mp (az (h.calls c q).2.1 (ak (h.le g.hc (aT _)) (bh h.Bm)))) (b9 _)) id
theorem RV(h:p.Ok N):fV ((ae p.m).map λj=>(p.B j:Int))=(ae p.m).map λj=>(p.B j:Int):=E7 _ (by
 exact iW List.pairwise_map<|X7 (R:=(·<·)) (λ_ hb W0=>uA.mpr (bW (h.mono W0 (bW (aC.mp hb))))) List.pairwise_lt_range)
theorem OW(hx:x.arg.GX=some x)(hl:Ci false [x]=some (.fv (fH p))):ex (au N k) N (.setAttr 0 0 (.bj .list false (.cons (.var 1) .nil))) ([.own (.inst 490 []),x.arg,.unset,.unset,.unset],wl)=some (.next,[.own (.inst 490 [(0,.fv (fH p))]),x.arg,.unset,.unset,.unset],wl):=by
 have v:ev (au N k) (.var 1) [.own (.inst 490 []),x.arg,.unset,.unset,.unset] wl=some (x,wl):=by
  show(x.arg.GX).map (λy=>(y,wl))=_;exact eW hx rfl
 have e:ev (au N k) (.bj .list false (.cons (.var 1) .nil)) [.own (.inst 490 []),x.arg,.unset,.unset,.unset] wl=some (.fv (fH p),wl):=cK (ah v aE) hl;exact(Mm (c:=490) rfl e (by decide)).trans rfl
theorem Et(h:p.Ok N)(hx:x.arg.GX=some x)(hl:Ci false [x]=some (.fv (fH p))):au N (k+12) (.obj 490) [x] wl=some (p.fv,wl):=by
 refine xU (C:=au N (k+11)) (N:=N) (wl:=wl) (fr:=Zd p x 0 .unset) (Zd p x) (λ_=>wl) (λi j=>j=i) 0 (j:=3) (b:=bR (bodyOf dP))
  (Fb h rfl rfl) (cN (ak h.i2 (by decide))) rfl .un rfl (λ_ _=>rfl) (λ_ _ _=>rfl) (λi j=>OV h) λi1 y1 ZX q1 e1=>?_
 subst q1;refine xU (C:=au N (k+11)) (N:=N) (wl:=wl) (fr:=[.own (E9 p),x.arg,.val (nI p.n),y1,.own (.ob (.set [0]))]) (Yd p x) (λ_=>wl) (I2 p) 0 (j:=3) (y0:=y1) (b:=bR (lZ 6 (bodyOf dP)))
  (Fb h rfl rfl) (cN (b:=p.n) (ak h.i2 (by decide))) (by show _=[_,_,_,_,Slot.own (.ob (.set [((p.B 0:Nat):Int)]))];exact eW h.B0 rfl) ZX ⟨h.m3.1,λj _=>⟨λq=>absurd q (dy _),λq=>absurd q (dy _)⟩⟩ (λ_ _=>rfl) (λ_ _ _=>rfl) (λi c=>OU h) λc y2 hy2 g e2=>?_
 unfold Yd at e2;rw[g.done h]at e2;refine(Yf (c:=490) (r:=[x.arg,.val (nI p.n),y2,.own (.ob (.set ((ae p.m).map λj=>(p.B j:Int))))]) (fs:=[(0,.fv (fH p)),(1,.ob (.list ((ae p.n).map nI))),(2,.ob (.dict (DZ p.n))),(3,.fv (nI p.n)),(4,.fv (nL ((ae p.m).map p.B)))]) rfl rfl rfl rfl (ao (OW hx hl) (ao rfl (ao rfl (ao (aZ rfl rfl) (ao e1 (ao rfl (ao rfl (ao e2 (ao ?_ aY)))))))))).trans rfl;refine(Mm (c:=490) (d:=nL ((ae p.m).map p.B)) rfl (cK (ah rfl aE) ?_) (av rfl)).trans rfl
 show some (EV.fv (.list ((fV ((ae p.m).map λj=>(p.B j:Int))).map .int)))=_;rw[RV h,nL,bH,bH];rfl
theorem HT{σ:Type}{F:σ->FV->Option (Fl×σ)}(I:σ->Prop)(rest:List FV)(vs:List FV):(∀v∈vs,∀a,I a->∃a',F a v=some (.next,a')/\I a')->∀a,I a->∃a',I a'/\forL F (vs++rest) a=forL F rest a':=
 ub (motive:=λvs=>(∀v∈vs,∀a,I a->∃a',F a v=some (.next,a')/\I a')->∀a,I a->∃a',I a'/\forL F (vs++rest) a=forL F rest a') (λ_ a h=>⟨a,h,rfl⟩)
  (λv vs ih st a h=>bS (st v a7 a h) λa1 e h1=>bS (ih (λv hv=>st v (aW _ hv)) a1 h1) λa2 h2 e2=>⟨a2,h2,bs e e2⟩) vs
theorem Le{σ:Type}{F:σ->FV->Option (Fl×σ)}{v:FV}{r:List FV}{a a':σ}(h:F a v=some (.ret d,a')):forL F (v::r) a=some (.ret d,a'):=bs h rfl
theorem SK(h:a+1<b):a<(a+b)/2:=by lia
theorem SM(h:a<b):(a+b)/2<b:=by lia
section
variable (h:p.Ok N)
include h
theorem AM(hj:j<p.m):((ae p.m).map p.B).map nI=((ae p.m).map p.B).map nI/\jq (.fv (nL ((ae p.m).map p.B))) (.fv (nI j)) wl=some (.fv (nI (p.B j))):=
 ⟨rfl,fx (by refine eW bH ?_;exact eD hj) (by have:=h.m3.2;lia)⟩
theorem nR:au N (k+1) (.obj 454) [.fv p.fv] wl=some (nI p.n,wl):=by
 have lo:((ae p.n).map p.o).length=p.n:=by exact eW (aj ..)<|eW aq rfl
 have:=nE (xs:=(ae p.n).map p.o) (ak (bh lo) (ll h.i2 rfl));rw[lo]at this;exact cM rfl<|bt rfl rfl<|br<|bZ<|cK (ah rfl aE) this
theorem tQ(hi:i<p.n):jq (.fv (fH p)) (.fv (nI i)) wl=some (.fv (p.o i)):=fx (eD hi) (by have:=h.i2;lia)
theorem wR(hi:i<p.n)(hw:(p.r i).w=1\/(p.r i).w=2\/(p.r i).w=4):au N (k+11) (.obj 461) [.fv p.fv,.fv (nI i)] wl=some (nI (p.T i),wl):=
 yT (y0:=.fv (fH p)) (y1:=.fv (nL (ae p.n))) rfl rfl (tQ h hi) rfl (fx (by exact eW (eD hi) rfl) (by have:=h.i2;lia)) ((h.ord i hi).dist hw)
theorem i5(hi:i<p.n)(hw:(p.r i).w=1\/(p.r i).w=2\/(p.r i).w=4):au N (k+12) (.obj 468) [.fv p.fv,.fv (nI i)] wl=some (nI (p.T i),wl):=
 cM (k:=k+11) rfl<|bt rfl rfl<|br<|bZ<|de (x:=.fv (.dict (DZ p.n))) rfl (fm (c:=490) rfl (ah rfl aE) rfl rfl (wR h hi hw)) (by
  show((DZ p.n).lookup ((p.T i:Nat):Int)).map EV.fv=_;refine eW (sF (h.goal hi hw)) ?_;rfl)
structure BIn(p:Prog)(i:Nat)(a:Nat×Nat×Slot):Prop where
 h1:a.1<a.2.1
 h2:a.2.1<=p.m
 h3:p.B a.1<=i
 h4:i<p.B a.2.1
 y:Y a.2.2
def BF(p:Prog)(i:Nat)(a:Nat×Nat×Slot):List Slot:=[.val p.fv,.val (nI i),.val (nI a.1),.val (nI a.2.1),a.2.2]
theorem Js{a:Nat×Nat×Slot}:BIn p i a->decide ((1:Int)<(a.2.1:Int)-a.1)=true->yZ (hU (au N k) N (cP (bodyOf gN)) (BF p i a,wl)) (BF p i) (λ_=>wl) λa'=>BIn p i a'/\a'.2.1-a'.1<a.2.1-a.1:=
 So a λlo pN s g hT=>by
  have g1:lo<pN:=g.h1
  have ht:lo+1<pN:=by have:=of_decide_eq_true hT;dsimp only at this;lia
  have m1:=SK ht
  have m2:=SM g1
  have mid:(lo+pN)/2<p.m:=az m2 g.h2
  have st:ex (au N k) N (o6 0 (cP (bodyOf gN))) (BF p i (lo,pN,s),wl)=some (.next,BF p i (lo,pN,.val (nI ((lo+pN)/2))),wl):=aZ (dh (x:=.fv (nI (lo+pN))) rfl rfl (Ee (m:=2) (by decide) (by decide))) (jB rfl g.y)
  have RN:eK (au N k) (.cmp .LtE (.idx (.attr (.var 0) 4) (.var 4)) (.var 1)) (BF p i (lo,pN,.val (nI ((lo+pN)/2)))) wl=some (decide (p.B ((lo+pN)/2)<=i),wl):=aa1 (x:=p.B ((lo+pN)/2)) (y:=i) (decide_eq_decide.mpr uA) (de (x:=.fv (nL ((ae p.m).map p.B))) rfl rfl (AM h mid).2) rfl;by_cases q:p.B ((lo+pN)/2)<=i
  . rw[decide_eq_true q]at RN
    exact .mk .next ((lo+pN)/2,pN,.val (nI ((lo+pN)/2))) (ao st (ao (cz RN (ao (aZ rfl rfl) aY)) aY)) fw ⟨⟨m2,g.h2,q,g.h4,.va _⟩,iX g1 m1⟩
  . rw[decide_eq_false q]at RN
    exact .mk .next (lo,(lo+pN)/2,.val (nI ((lo+pN)/2))) (ao st (ao (bl RN (ao (aZ rfl rfl) aY)) aY)) fw ⟨⟨m1,bW mid,g.h3,Qf q,.va _⟩,Nat.sub_lt_sub_right (bW m1) m2⟩
theorem lE(hi:i<p.n)(hN:10<=N):au N (k+1) (.obj 475) [.fv p.fv,.fv (nI i)] wl=some (nI (p.B (p.P i)),wl):=by
 have m3:=h.m3
 have ln:ju .len false [.fv (nL ((ae p.m).map p.B))]=some (.fv (nI p.m)):=by
  have:=nE (xs:=((ae p.m).map p.B).map nI) (by refine eW (aj ..)<|eW (aj ..)<|eW aq ?_;exact ll m3.2 rfl)
  rwa[aj,aj,aq]at this
 exact si (C:=au N k) (N:=N) (wl:=wl) (fr:=BF p i (0,p.m,.unset)) (BF p i) (λ_=>wl) (BIn p i) (λa=>a.2.1-a.1) (0,p.m,.unset)
  (t:=.cmp .Gt (.bin .Sub (.var 3) (.var 2)) (.lit (.int 1))) (b:=cP (bodyOf gN)) rfl rfl ⟨m3.1,aT _,h.B0.symm▸aU i,h.Bm.symm▸hi,.un⟩ (aQ m3.2 (az (by decide) hN)) (λa=>decide ((1:Int)<(a.2.1:Int)-a.1)) (λa _=>fJ (dh rfl rfl rfl) rfl rfl) (λa=>Js h) λa=>So a λlo pN s g hT e=>by
  have g1:lo<pN:=g.h1
  have e0:pN=lo+1:=by have:=of_decide_eq_false hT;dsimp only at this;lia
  subst e0
  have hP:=h.Iy hi g.h2 g.h3 g.h4;exact cM rfl<|bt rfl rfl<|ao (gm (xs:=[.fv (nI 0),.fv (nI p.m)]) (ah rfl (ah (cK (ah rfl aE) ln) aE)) rfl)<|ao e<|br<|bZ<|de (x:=.fv (nL ((ae p.m).map p.B))) rfl rfl (by refine eW hP ?_;exact(AM h g.h2).2)
theorem Cc(hj:j<p.m):au N (k+1) (.obj 482) [.fv p.fv,.fv (nI (p.B j))] wl=some (nI (p.B (j+1)),wl):=by
 have m3:=h.m3
 have lo:((ae p.n).map p.o).length=p.n:=by exact eW (aj ..)<|eW aq rfl
 have ln:=nE (xs:=(ae p.n).map p.o) (ak (bh lo) (ll h.i2 rfl));rw[lo]at ln
 have it:items (.fv (nL ((ae p.m).map p.B)))=some (((ae (j+1)).map p.B).map nI++((ae (p.m-(j+1))).map λi=>p.B (j+1+i)).map nI):=by
  rw[d9 (by rw[aj,aq];exact ll m3.2 rfl),<-bf];refine congrArg (λl=>some (Rx nI l)) ?_
  (refine xE (CH (show j+1<=p.m from hj)) λd hd=>?_)
  refine eW hd<|eW (cW ..)<|eW y4<|eW bf<|eW bH ?_;rfl
 have RN:∀v y,Y y->hU (au N k) N (bR (bodyOf gk)) ([.val p.fv,.val (nI (p.B j)),.val (nI v)],wl)=if p.B j<v then some (.ret (nI v),[.val p.fv,.val (nI (p.B j)),.val (nI v)],wl)else some (.next,[.val p.fv,.val (nI (p.B j)),.val (nI v)],wl):=λv y hy=>by
  split
  . rename_i q;exact br (cz (Io (x:=v) (y:=p.B j) (decide_eq_true (dn.mpr q)) rfl rfl) (br (bZ rfl)))
  . rename_i q;exact ao (bl (Io (x:=v) (y:=p.B j) (decide_eq_false λc=>q (dn.mp c)) rfl rfl) aY) aY
 (refine bS (HT (F:=λ(a:St) v=>(c6 a.1 [2] v).bind λfr=>hU (au N k) N (bR (bodyOf gk)) (fr,a.2)) (λa=>∃y,Y y/\a=([.val p.fv,.val (nI (p.B j)),y],wl)) (((ae (p.m-(j+1))).map λi=>p.B (j+1+i)).map nI) (((ae (j+1)).map p.B).map nI) (λv hv a ⟨y,hy,ha⟩=>by
   rw[bH]at hv;obtain⟨i,hi,rfl⟩:=bO.mp hv;rw[aC]at hi;subst ha
   have:=h.le (mY hi) (bW hj);refine⟨_,?_,.val (nI (p.B i)),.va _,rfl⟩
   show(c6 [.val p.fv,.val (nI (p.B j)),y] [2] (nI (p.B i))).bind _=_;rw[show c6 [.val p.fv,.val (nI (p.B j)),y] [2] (nI (p.B i))=some [.val p.fv,.val (nI (p.B j)),.val (nI (p.B i))]by cases hy<;>rfl,bK,RN _ _ hy,if_neg (cG.mpr this)]) ([.val p.fv,.val (nI (p.B j)),.unset],wl) ⟨_,.un,rfl⟩) λa1 q2=>?_;obtain⟨y,hy,rfl⟩:=q2;intro e1)
 by_cases q:j+1<p.m
 . (refine xE (Nat.exists_eq_add_of_lt q) λd hd=>?_)
   have e2:=Le (F:=λ(a:St) v=>(c6 a.1 [2] v).bind λfr=>hU (au N k) N (bR (bodyOf gk)) (fr,a.2)) (v:=nI (p.B (j+1))) (r:=((ae d).map λi=>p.B (j+1+(i+1))).map nI) (a:=([.val p.fv,.val (nI (p.B j)),y],wl)) (a':=([.val p.fv,.val (nI (p.B j)),.val (nI (p.B (j+1)))],wl)) (d:=nI (p.B (j+1))) (by
    show(c6 [.val p.fv,.val (nI (p.B j)),y] [2] (nI (p.B (j+1)))).bind _=_;rw[show c6 [.val p.fv,.val (nI (p.B j)),y] [2] (nI (p.B (j+1)))=some [.val p.fv,.val (nI (p.B j)),.val (nI (p.B (j+1)))]by cases hy<;>rfl,bK,RN _ _ hy,if_pos (h.U0 j hj)])
   refine cM rfl<|bt rfl rfl<|br (Gu (x:=.fv (nL ((ae p.m).map p.B))) rfl it (e1.trans (UZ ?_ e2)));rw[show p.m-(j+1)=d+1 by exact eW hd<|eW (fc (j+1) ..)<|eW (cW ..) rfl,CJ];simp only[bT,bH];rfl
 . have hm:p.m=j+1:=by lia
   rw[show p.m-(j+1)=0 by omega]at e1 it;refine eL hm<|eW h.Bm ?_;exact cM rfl<|bt rfl rfl<|ao (Gu (x:=.fv (nL ((ae p.m).map p.B))) rfl it e1)<|br<|bZ<|cK (ah rfl aE) ln
end
theorem kU{t:IE}{a:IB}(h:eK C t fr wl=some (false,wl)):ex C N (.ite t a .nil) (fr,wl)=some (.next,fr,wl):=bl h aY
theorem P7{a b c:IE}{x y z:Int}(h3:x<=y)(h5:y<z)(h1:ev C a fr wl=some (.fv (.int x),wl))(h2:ev C b fr wl=some (.fv (.int y),wl))(h4:ev C c fr wl=some (.fv (.int z),wl)):eK C (.chain .LtE .Lt a b c) fr wl=some (true,wl):=by
 refine eW yK<|eW h1<|eW (bK ..)<|eW h2<|eW (bK ..) ?_
 show((some (decide (x<=y)):Option Bool).bind _)=_;refine eW (decide_eq_true h3)<|eW (bK ..)<|eW (if_pos rfl)<|eW h4<|eW (bK ..) ?_
 show(some (decide (y<z)):Option Bool).map _=_;exact eW (decide_eq_true h5) rfl
noncomputable def Prog.succ(p:Prog)(i:Nat):List Nat:=if(p.r i).w=3 then[]else if(p.r i).w=2 then[p.T i]else if(p.r i).w=1/\p.T i≠i+1 then[i+1,p.T i]else[i+1]
section
variable (h:p.Ok N)
include h
theorem Prog.Ok.j5(hi:i<p.n)(hj:j∈p.succ i):j<p.n/\p.P j=p.P i:=by
 unfold Prog.succ at hj;split at hj
 . exact absurd hj a8
 . rename_i h3
   split at hj
   . rename_i h2;rw[aI]at hj;subst hj;exact h.f7 i hi (.inr h2)
   . split at hj
     . rename_i h1
       rcases a6.mp hj with q|q
       . exact eW q<|h.next hi h3
       . rw[aI]at q;subst q;exact h.f7 i hi (.inl h1.1)
     . rw[aI]at hj;subst hj;exact h.next hi h3
theorem wX(hi:i<p.n):au N (k+10) (.obj 221) [.fv (p.o i)] wl=some (.bool ((p.r i).w==3),wl)/\au N (k+10) (.obj 200) [.fv (p.o i)] wl=some (.bool ((p.r i).w==2),wl)/\au N (k+10) (.obj 228) [.fv (p.o i)] wl=some (.bool ((p.r i).w==1),wl)/\au N (k+10) (.obj 214) [.fv (p.o i)] wl=some (.bool ((p.r i).w==4),wl)/\
 au N (k+10) (.obj 501) [.fv (p.o i)] wl=some (.bool ((p.r i).w==1||(p.r i).w==2||(p.r i).w==4),wl):=by
 have t:=(h.ord i hi).told k wl;exact⟨ag (kA t 1),ag (kA t 2),ag (kA t 3),ag (kA t 4),ag (kA t 5)⟩
def YF(p:Prog)(i:Nat):List Slot:=[.val p.fv,.val (nI i),.val (p.o i)]
theorem EH(hi:i<p.n)(hw:(p.r i).w=1\/(p.r i).w=2\/(p.r i).w=4):ev (au N (k+12)) (.ef (.user 22) (.var 0) (.cons (.var 1) .nil)) (YF p i) wl=some (.fv (nI (p.T i)),wl):=fm (c:=490) rfl (ah rfl aE) rfl rfl (i5 h (k:=k) hi hw)
theorem pT(hi:i<p.n){b:Bool}(t:au N (k+12) (.obj a) [.fv (p.o i)] wl=some (.bool b,wl)){c:Bool}(e:b=c):eK (au N (k+12)) (.call (.bc (.obj a)) (.cons (.var 2) .nil)) (YF p i) wl=some (c,wl):=e▸jG rfl (aG (ah rfl aE) t)
theorem te(hi:i<p.n):au N (k+13) (.obj 508) [.fv p.fv,.fv (nI i)] wl=some (nL (p.succ i),wl):=by
 refine fA (wX h (k:=k+2) (wl:=wl) hi) λa3 a2 a1 _=>?_;refine cM (k:=k+12) rfl<|bt (cJ:=YF p i) rfl rfl<|ao (aZ (de (x:=.fv (fH p)) rfl rfl (tQ h hi)) rfl) ?_;by_cases h3:(p.r i).w=3
 . exact eW (show p.succ i=[]from if_pos h3)<|br (cz (pT h hi a3 (beq_iff_eq.mpr h3)) (br (bZ rfl)))
 refine ao (bl (pT h hi a3 (beq_eq_false_iff_ne.mpr h3)) aY) ?_;by_cases h2:(p.r i).w=2
 . exact eW (show p.succ i=[p.T i]from(if_neg h3).trans (if_pos h2))<|br (cz (pT h hi a2 (beq_iff_eq.mpr h2)) (br (bZ (y6 (own:=false) (ah (EH h hi (.inr (.inl h2))) aE) rfl))))
 refine ao (bl (pT h hi a2 (beq_eq_false_iff_ne.mpr h2)) aY) ?_;by_cases h1:(p.r i).w=1
 . have t2:∀r,decide (p.T i=i+1)=r->eK (au N (k+12)) (.cmp .NotEq (.ef (.user 22) (.var 0) (.cons (.var 1) .nil)) (.bin .Add (.var 1) (.lit (.int 1)))) (YF p i) wl=some (!r,wl):=λr e=>Mh (x:=(p.T i:Int)) (y:=((i+1:Nat):Int)) (r:=r) (by rw[<-e,cT,beq_iff_eq,decide_eq_true_iff];exact jf) (EH h hi (.inl h1)) rfl
   have t1:=pT h hi a1 (beq_iff_eq.mpr h1);by_cases q:p.T i=i+1
   . exact eW (show p.succ i=[i+1]from(if_neg h3).trans ((if_neg h2).trans (if_neg λc=>c.2 q)))<|ao (bl (jH (dR t1 (d6 (t2 true (decide_eq_true q))))) aY) (br (bZ (y6 (own:=false) (ah (x:=.fv (nI (i+1))) rfl aE) rfl)))
   . exact eW (show p.succ i=[i+1,p.T i]from(if_neg h3).trans ((if_neg h2).trans (if_pos ⟨h1,q⟩)))<|br (cz (jH (dR t1 (dR (t2 false (decide_eq_false q)) pC))) (br (bZ (y6 (own:=false) (ah (x:=.fv (nI (i+1))) rfl (ah (EH h hi (.inl h1)) aE)) rfl))))
 . exact eW (show p.succ i=[i+1]from(if_neg h3).trans ((if_neg h2).trans (if_neg λc=>h1 c.1)))<|ao (bl (jH (d6 (pT h hi a1 (beq_eq_false_iff_ne.mpr h1)))) aY) (br (bZ (y6 (own:=false) (ah (x:=.fv (nI (i+1))) rfl aE) rfl)))
theorem oM(hv:ev (au N (k+1)) (.var s) fr wl=some (.fv p.fv,wl)):ev (au N (k+1)) (.bj .range false (.cons (.ef (.user 20) (.var s) .nil) .nil)) fr wl=some (.fv (.range 0 p.n 1),wl):=
 cK (ah (fm (c:=490) hv aE rfl rfl (nR h)) aE) rfl
noncomputable def Prog.locals(p:Prog):List Nat:=(ae p.n).filter λi=>(p.r i).w==4
theorem tY:au N (k+11) (.obj 513) [.fv p.fv] wl=some (nL p.locals,wl):=by
 exact cM (k:=k+10) rfl<|bt rfl rfl<|br<|bZ<|gA (own:=false) nI (ae p.n) (cs:=[.ro p.fv]) (oM h (k:=k+9) (s:=0) rfl) (cN (by have:=h.i2;lia)) rfl (λi=>(p.r i).w==4) nI (λi hi=>by
  have t:eK (au N (k+10)) (.call (.bc (.obj 214)) (.cons (.idx (.attr (.var 1) 0) (.var 0)) .nil)) [.val (nI i),.ro p.fv] wl=some ((p.r i).w==4,wl):=jG rfl (aG (ah (de (x:=.fv (fH p)) rfl rfl (tQ h (aC.mp hi))) aE) (wX h (k:=k) (aC.mp hi)).2.2.2.1);induction q:((p.r i).w==4)using ax with
  |true=>exact dR (q▸t) pC
  |false=>exact d6 (q▸t)) (λ_ _ _=>rfl) (by refine eW aq ?_;have:=h.i2;lia)
theorem qC:i∈p.locals↔i<p.n/\(p.r i).w=4:=by
 unfold Prog.locals;rw[eO,aC,beq_iff_eq]
def KF(p:Prog)(a:Slot×Slot)(y:Slot):List Slot:=[.val p.fv,y,a.1,a.2]
omit h in
theorem w_any{w:Nat}(hw:w=1\/w=2\/w=4):(w==1||w==2||w==4)=true:=by rcases hw with q|q|q<;>refine eW q ?_<;>rfl
omit h in
theorem U3{w:Nat}(hw:¬(w=1\/w=2\/w=4)):(w==1||w==2||w==4)=false:=by
 refine eW (beq_eq_false_iff_ne.mpr λe=>hw (.inl e))<|eW (beq_eq_false_iff_ne.mpr λe=>hw (.inr (.inl e)))<|eW (beq_eq_false_iff_ne.mpr λe=>hw (.inr (.inr e))) ?_;rfl
theorem MB(hi:i<p.n){a:Slot×Slot}(h1:Y a.1):ex (au N k) N (.assign 2 (.idx (.attr (.var 0) 0) (.var 1))) (KF p a (.val (nI i)),wl)=some (.next,KF p (.val (p.o i),a.2) (.val (nI i)),wl):=
 aZ (de (x:=.fv (fH p)) rfl rfl (tQ h hi)) (jB rfl h1)
theorem RA(hi:i<p.n){a:Slot}:eK (au N (k+13)) (.call (.bc (.obj 501)) (.cons (.var 2) .nil)) (KF p (.val (p.o i),a) (.val (nI i))) wl=some ((p.r i).w==1||(p.r i).w==2||(p.r i).w==4,wl):=jG rfl (aG (ah rfl aE) (wX h (k:=k+3) (wl:=wl) hi).2.2.2.2)
theorem K8{a:Slot×Slot}(hi:i<p.n)(h1:Y a.1/\Y a.2):Turn (hU (au N (k+13)) N (bR (bodyOf gW)) (KF p a (.val (nI i)),wl)) (KF p) (λ_=>wl) λa=>Y a.1/\Y a.2:=by
 by_cases hw:(p.r i).w=1\/(p.r i).w=2\/(p.r i).w=4
 . exact .next (.val (p.o i),.val (nI (p.T i))) (.val (nI i)) (ao (MB h hi h1.1)<|ao (cz ((RA h hi).trans (congrArg (λb=>some (b,wl)) (w_any hw))) (ao (aZ (fm (c:=490) rfl (ah rfl aE) rfl rfl (wR h (k:=k+2) hi hw)) (jB rfl h1.2))
    (ao (kU (Gq (P7 (x:=0) (y:=p.T i) (z:=p.n) (bJ _) (dn.mpr (h.goal hi hw)) rfl rfl rfl))) (ao (kU (fJ rfl (y:=.fv (.dict (DZ p.n))) rfl (congrArg (λo:Option FV=>(some o.isSome).map (!·)) (sF (h.goal hi hw))))) aY)))) aY) (.va _) ⟨.va _,.va _⟩
 . exact .next (.val (p.o i),a.2) (.val (nI i)) (ao (MB h hi h1.1)<|ao (bl ((RA h hi).trans (congrArg (λb=>some (b,wl)) (U3 hw))) aY) aY) (.va _) ⟨.va _,h1.2⟩
theorem X8(hi:i<p.n){a:Slot}{b:Bool}(e:((p.r i).w==2||(p.r i).w==1)=b):eK (au N (k+13)) (.uJ (.cons (.call (.bc (.obj 200)) (.cons (.var 2) .nil)) (.cons (.call (.bc (.obj 228)) (.cons (.var 2) .nil)) .nil))) (KF p (.val (p.o i),a) (.val (nI i))) wl=some (b,wl):=
 fA (wX h (k:=k+3) (wl:=wl) hi) λ_ a2 a1 _=>(Ah (f5 (jG rfl (aG (ah rfl aE) a2)) λ_=>f5 (jG rfl (aG (ah rfl aE) a1)) λ_=>r_)).trans (congrArg (λb=>some (b,wl)) ((congrArg (_||·) (fQ _)).trans e))
theorem K7(hN:10<=N){a:Slot×Slot}(hi:i<p.n)(h1:Y a.1):Turn (hU (au N (k+13)) N (bR (lZ 1 (bodyOf gW))) (KF p a (.val (nI i)),wl)) (KF p) (λ_=>wl) λa=>Y a.1:=by
 refine .next (.val (p.o i),a.2) (.val (nI i)) (ao (MB h hi h1)<|ao (kU ?_) aY) (.va _) (.va _)
 by_cases hw:(p.r i).w=1\/(p.r i).w=2
 . have hT:=h.f7 i hi hw
   exact jH (dR (X8 h hi (b:=true) (by rcases hw with q|q<;>refine eW q ?_<;>rfl)) (d6 (Mh (x:=p.B (p.P (p.T i))) (y:=p.B (p.P i)) (r:=true) (by rw[hT.2,beq_self_eq_true]) (fm (c:=490) rfl (ah (fm (c:=490) rfl (ah rfl aE) rfl rfl (i5 h (k:=k+1) hi (hw.elim .inl λq=>.inr (.inl q)))) aE) rfl rfl (lE h (k:=k+12) hT.1 hN)) (fm (c:=490) rfl (ah rfl aE) rfl rfl (lE h (k:=k+12) hi hN)))))
 . exact jH (d6 (X8 h hi (b:=false) (by refine eW (beq_eq_false_iff_ne.mpr λe=>hw (.inl e))<|eW (beq_eq_false_iff_ne.mpr λe=>hw (.inr e)) ?_;rfl)))
theorem wO(hN:10<=N):au N (k+14) (.obj 542) [.fv p.fv] wl=some (.none,wl):=by
 have i2:p.n<=100000:=ak h.i2 (by decide);refine xU (C:=au N (k+13)) (N:=N) (wl:=wl) (fr:=KF p (.unset,.unset) .unset) (KF p) (λ_=>wl) (λ_ a=>Y a.1/\Y a.2) (.unset,.unset) (j:=1) (y0:=.unset) (b:=bR (bodyOf gW))
  (oM h (k:=k+12) (s:=0) rfl) (cN i2) rfl .un ⟨.un,.un⟩ (λ_ _=>rfl) (λ_ _ _=>rfl) (λi a=>K8 h) λa1 y1 ZX h1 e1=>?_
 refine xU (C:=au N (k+13)) (N:=N) (wl:=wl) (fr:=KF p a1 y1) (KF p) (λ_=>wl) (λ_ a=>Y a.1) a1 (j:=1) (y0:=y1) (b:=bR (lZ 1 (bodyOf gW)))
  (oM h (k:=k+12) (s:=0) rfl) (cN (b:=p.n) i2) rfl ZX h1.1 (λ_ _=>rfl) (λ_ _ _=>rfl) (λi a=>K7 h hN) λa2 y2 hy2 h2 e2=>?_
 exact cM (k:=k+13) rfl<|Ai rfl rfl<|ao e1<|ao e2 aY
end
section
variable (h:p.Ok N)
include h
theorem nG:items (.fv (nL ((ae p.m).map p.B)))=some ((ae p.m).map λj=>nI (p.B j)):=by
 rw[d9 (by rw[aj,aq];have:=h.m3.2;lia),bH];rfl
theorem Lw(hj:j<p.m):p.B (j+1)-1<p.n/\(p.r (p.B (j+1)-1)).w=3:=by
 have h1:=h.U0 j hj
 have h2:=h.le (show j+1<=p.m from hj) (aT _);rw[h.Bm]at h2
 have pos:=aQ (aU _) h1
 have hi:p.B (j+1)-1<p.n:=az (Mx pos IA) h2
 have hP:=h.Iy hi hj (ID h1) (Mx pos IA);exact⟨hi,(h.last _ hi).mpr (by exact eW hP<|mz pos)⟩
theorem xV:au N (k+14) (.obj 549) [.fv p.fv] wl=some (.none,wl):=
 xU (C:=au N (k+13)) (N:=N) (wl:=wl) (fr:=[.val p.fv,.unset,.unset]) (λ(a:Slot) y=>[.val p.fv,y,a]) (λ_=>wl) (λ_ a=>Y a) .unset (j:=1) (y0:=.unset) (it:=.attr (.var 0) 4) (b:=bR (bodyOf qq))
  (x:=.fv (nL ((ae p.m).map p.B))) rfl (nG h) rfl .un .un (λ_ _=>rfl) (λ_ _ _=>rfl) (λj s hj hs=>xA (Lw h hj) λhi hw=>by
    have a3:=(wX h (k:=k+3) (wl:=wl) hi).1;rw[hw]at a3
    have:=h.U0 j hj;exact .next (.val (nI (p.B (j+1)-1))) (.val (nI (p.B j))) (ao (aZ (d:=nI (p.B (j+1)-1)) (dh (fm (c:=490) rfl (ah rfl aE) rfl rfl (Cc h (k:=k+12) hj)) rfl (congrArg (λz=>some (EV.fv (.int z))) (show(p.B (j+1):Int)-1=((p.B (j+1)-1:Nat):Int)by lia))) (jB rfl hs))<|ao (kU (jH (d6 (Gq (b:=true) (jG rfl (aG (ah (de (x:=.fv (fH p)) rfl rfl (tQ h hi)) aE) a3)))))) aY) (.va _) (.va _))
  λ_ _ _ _ e=>cM (k:=k+13) rfl<|Ai rfl rfl<|ao e aY
theorem Prog.Ok.pos:0<p.n:=aQ (aU _) (h.Ov (j:=0) h.m3.1)
end
def Prog.h_(p:Prog)(i:Nat):List Nat:=p.succ i++if(p.r i).w=4 then[p.T i]else[]
structure Seen(p:Prog)(S:Nat->Bool)(Wt:List Nat):Prop where
 zero:S 0=true
 wt:∀i∈Wt,i<p.n
 U9:∀i,i<p.n->S i=true->i∈Wt\/∀j∈p.h_ i,S j=true
def jO(p:Prog)(S:Nat->Bool):Nat:=sumTo (λi=>if S i then 0 else 1) p.n
noncomputable abbrev lr(p:Prog)(S:Nat->Bool):List FV:=(ae p.n).map λi=>FV.bool (S i)
section
variable (h:p.Ok N)
include h
theorem Ho(hi:i<p.n)(hj:j∈p.h_ i):j<p.n:=by
 rcases cq.mp hj with q|q
 . exact(h.j5 hi q).1
 . split at q
   . rename_i hw;rw[aI]at q;subst q;exact h.goal hi (.inr (.inr hw))
   . exact absurd q a8
theorem qB(i:Nat):(p.h_ i).length<=3:=by
 delta Prog.h_ Prog.succ;by_cases h3:(p.r i).w=3
 . rw[if_pos h3,if_neg (by lia)];simp
 . refine eW (if_neg h3) ?_
   by_cases h2:(p.r i).w=2
   . rw[if_pos h2,if_neg (by lia)];simp
   . refine eW (if_neg h2) ?_;split<;>split<;>simp
theorem Md(z:S 0=true)(sh:∀i,i<p.n->S i=true->∀j∈p.h_ i,S j=true):∀i,i<p.n->S i=true:=by
 intro i;induction i using Nat.strongRecOn with
 |ind i ih=>
  intro hi;cases i with
  |zero=>exact z
  |succ i=>
   by_cases h3:(p.r i).w=3
   . have hl:=(h.last i (g9 hi)).mp h3
     have hp:=(h.part i (g9 hi)).1
     have hm:p.P i+1<p.m:=by
      rcases jx (show p.P i+1<=p.m from hp)with q|q
      . exact q
      . rw[q,h.Bm]at hl;exact absurd hi (by exact eW hl<|b9 _)
     (refine jN (h.calls (p.P i) hm) λc1 c2 c3=>?_)
     have hc:p.C (p.P i)<p.n:=by lia
     refine sh _ hc (ih _ (by lia) hc) _ (dE _ ?_);refine eW (if_pos c3)<|iW aI ?_;obtain⟨-,q2,-⟩:=h.call _ hc c3;rw[q2,h.Iy hc (by lia) c1 c2,hl]
   . by_cases h2:(p.r i).w=2
     . (refine dT (h.reach i hi h2) λj hj j1 j2=>?_)
       refine sh j (by lia) (ih j (by lia) (by lia)) _ (dr _ ?_);delta Prog.succ;rw[if_neg (by lia),if_neg (by lia)];split
       . refine eW j2 ?_;simp
       . rename_i q
         have:p.T j=j+1:=fg λc=>q ⟨j1,c⟩;refine eL j2<|eW this ?_;simp
     . refine sh i (by lia) (ih i (by lia) (by lia)) _ (dr _ ?_)
       delta Prog.succ;refine eW (if_neg h3)<|eW (if_neg h2) ?_;split<;>simp
structure Ua(p:Prog)(S:Nat->Bool)(pR:List Nat)(i n:Nat)(a:(Nat->Bool)×List Nat):Prop where
 g1:∀j,S j=true->a.1 j=true
 g2:∀j∈pR,j∈a.2
 g3:∀j∈a.2,j<p.n
 g4:jO p a.1+a.2.length=jO p S+pR.length
 g5:∀j,j<p.n->a.1 j=true->S j=true\/j∈a.2
 g6:∀m,m<n->∀j,(p.h_ i)[m]?=some j->a.1 j=true
omit h in
theorem Ua.skip{pR W1:List Nat}{n:Nat}(g:Ua p S pR i n (S1,W1))(hj:(p.h_ i)[n]?=some j)(q:S1 j=true):Ua p S pR i (n+1) (S1,W1):=
 {g with g6:=λm hm j' HP=>(bE.mp hm).elim (λr=>g.g6 m r j' HP) λr=>ag ((r▸hj).symm.trans HP)▸q}
omit h in
theorem vc(hj:j<p.n)(q:S1 j=false):jO p (upd S1 j true)+1=jO p S1:=by
 have lt:=oG (f:=λi=>if S1 i then 0 else 1) (g:=λi=>if upd S1 j true i then 0 else 1) (i:=j) (λi hi=>by exact eW (gi hi) rfl) p.n hj;rw[d8,q]at lt;exact lt
omit h in
theorem Qn{j':Nat}(h:S1 j'=true):upd S1 j true j'=true:=if q:j'=j then(if_pos q)else(if_neg q).trans h
omit h in
theorem Ua.take{pR W1:List Nat}{n:Nat}(g:Ua p S pR i n (S1,W1))(D3:j<p.n)(hj:(p.h_ i)[n]?=some j)(q:S1 j=false):Ua p S pR i (n+1) (upd S1 j true,W1++[j])where
 g1 j' h:=Qn (g.g1 j' h)
 g2 j' h:=dr _ (g.g2 j' h)
 g3 j' h:=(cq.mp h).elim (g.g3 j') λr=>aI.mp r▸D3
 g4:=(congrArg (jO p (upd S1 j true)+·) aJ).trans ((fc _ _ _).symm.trans ((dc _ _ _).trans ((congrArg (·+W1.length) (vc (p:=p) D3 q)).trans g.g4)))
 g5 j' hn h:=if r:j'=j then .inr (dE _ (r▸cU _))else(g.g5 j' hn ((gi r).symm.trans h)).imp id (dr _)
 g6 m hm j' HP:=(bE.mp hm).elim (λr=>Qn (g.g6 m r j' HP)) λr=>ag ((r▸hj).symm.trans HP)▸d8
def RI(p:Prog)(a:(Nat->Bool)×List Nat×Slot×Slot×Slot):Prop:=Seen p a.1 a.2.1/\jO p a.1+a.2.1.length<=31/\Y a.2.2.1/\Y a.2.2.2.1/\Y a.2.2.2.2
def RF(p:Prog)(a:(Nat->Bool)×List Nat×Slot×Slot×Slot):List Slot:=[.val p.fv,.own (.ob (.list (lr p a.1))),.own (.ob (.list (a.2.1.map nI))),a.2.2.1,a.2.2.2.1,a.2.2.2.2]
theorem C'{a:(Nat->Bool)×List Nat×Slot×Slot×Slot}:RI p a->(!a.2.1.isEmpty)=true->yZ (hU (au N (k+13)) N (cP (bodyOf jl)) (RF p a,wl)) (RF p) (λ_=>wl) λa'=>RI p a'/\jO p a'.1+a'.2.1.length<jO p a.1+a.2.1.length:=
 Uv a λS Wt s3 s4 s5 hI hT=>kI hI λhS hM h3 h4 h5=>by
  clear hI;rcases ET Wt with rfl|⟨pR,i,rfl⟩
  . exact ff hT
  rw[EW]at hS hM⊢;clear hT
  have i2:=h.i2
  have hi:=hS.wt i (dE _ (cU _))
  have hM1:jO p S+(pR.length+1)<=31:=aJ (bs:=[i])▸hM
  have Z7:ex (au N (k+13)) N (.pop [3] true 2) (RF p (S,pR++[i],s3,s4,s5),wl)=some (.next,RF p (S,pR,.val (nI i),s4,s5),wl):=
   Ml (ys:=pR.map nI) (d:=nI i) (congrArg (λl=>some (Slot.own (.ob (.list l)))) bf) (by refine eW aJ<|eW (aj ..) ?_;simp;lia) (jB rfl h3)
  have lw:=(wX h (k:=k+3) (wl:=wl) hi).2.2.2.1
  have onw:ex (au N (k+13)) N (o6 2 (cP (bodyOf jl))) (RF p (S,pR,.val (nI i),.own (.ob (.list ((p.succ i).map nI))),s5),wl)=some (.next,RF p (S,pR,.val (nI i),.own (.ob (.list ((p.h_ i).map nI))),s5),wl):=by
   have t:eK (au N (k+13)) (.call (.bc (.obj 214)) (.cons (.idx (.attr (.var 0) 0) (.var 3)) .nil)) (RF p (S,pR,.val (nI i),.own (.ob (.list ((p.succ i).map nI))),s5)) wl=some ((p.r i).w==4,wl):=jG rfl (aG (ah (de (x:=.fv (fH p)) rfl rfl (tQ h hi)) aE) lw);delta Prog.h_;by_cases hw:(p.r i).w=4
   . rw[hw]at t
     refine eW (if_pos hw)<|eW bf ?_
     have:=qB h i;unfold Prog.h_ at this;rw[aJ]at this;exact cz t (ao (i8 (d:=nI (p.T i)) rfl (fm (c:=490) rfl (ah rfl aE) rfl rfl (i5 h (k:=k+1) hi (.inr (.inr hw)))) (decide_eq_true (by refine eW (aj ..) ?_;lia))) aY)
   . rw[show((p.r i).w==4)=false from beq_eq_false_iff_ne.mpr hw]at t
     exact eW (if_neg hw)<|eW (cC ..)<|kU t
  have ol:=qB h i
  have sl:(p.succ i).length<=1000:=ak (ak (aP _ _) (aJ (as:=p.succ i)▸ol)) (av rfl);refine tS (C:=au N (k+13)) (N:=N) (wl:=wl) (fr:=[.val p.fv,.own (.ob (.list (lr p S))),.own (.ob (.list (pR.map nI))),.val (nI i),.val (nL (p.h_ i)),s5]) (λ(a:(Nat->Bool)×List Nat) y=>[.val p.fv,.own (.ob (.list (lr p a.1))),.own (.ob (.list (a.2.map nI))),.val (nI i),.val (nL (p.h_ i)),y]) (λ_=>wl)
   (Ua p S pR i) (S,pR) (j:=5) (it:=.var 4) (y0:=s5) (b:=bR (cP (bodyOf jl))) (l:=p.h_ i) (g:=nI)
   rfl (d9 (by lia)) rfl h5 ⟨λ_ h=>h,λ_ h=>h,λj hj=>hS.wt j (dr _ hj),rfl,λ_ _ h=>.inl h,λm hm=>absurd hm (dy _)⟩ (λ_ _=>rfl) (λ_ _ _=>rfl) (λn j a hj=>J6 a λS1 W1 g=>by
    have D3:=Ho h hi (aF hj)
    have t:eK (au N (k+13)) (.un .Not (.idx (.var 1) (.var 5))) [.val p.fv,.own (.ob (.list (lr p S1))),.own (.ob (.list (W1.map nI))),.val (nI i),.val (nL (p.h_ i)),.val (nI j)] wl=some (!S1 j,wl):=Gq (jG rfl (de (x:=.bor (.ob (.list (lr p S1)))) rfl rfl (nJ (eD D3) (by lia))));induction q:S1 j using ax with
    |true=>rw[q]at t;exact .next (S1,W1) (.val (nI j)) (ao (kU t) aY) (.va _) (g.skip hj q)
    |false=>
     rw[q]at t;refine .next (upd S1 j true,W1++[j]) (.val (nI j)) ?_ (.va _) (g.take D3 hj q)
     have hl:=g.g4;refine ao (cz t (ao (EE (k:=(j:Int)) (d:=.bool true) (xs:=lr p S1) rfl rfl rfl ⟨bJ _,by refine eW (aj ..)<|eW aq ?_;exact D3,by lia⟩) (ao (i8 (xs:=W1.map nI) (d:=nI j) rfl rfl (decide_eq_true (by refine eW (aj ..) ?_;dsimp only at hl;lia))) aY))) ?_
     have e1:(lr p S1).set j (FV.bool true)=lr p (upd S1 j true):=zl (F:=FV.bool);dsimp only;exact eW bf<|eL e1 rfl)
   λa y hy=>J6 a λS' Wt' g el=>.mk .next (S',Wt',.val (nI i),.val (nL (p.h_ i)),y) (ao Z7<|ao (gD (t:=.ob (.list ((p.succ i).map nI))) (cK (ah (aG (ah rfl (ah rfl aE)) (te h (k:=k) hi)) aE) ?_) (jB rfl h4))<|ao onw<|ao rfl<|ao el aY) fw ⟨⟨⟨g.g1 0 hS.zero,g.g3,λx hx hs=>?_⟩,?_,.va _,.va _,hy⟩,?_⟩
  . show(listItems (.fv (nL (p.succ i)))).map _=_
    exact eW (show listItems (.fv (nL (p.succ i)))=items (.fv (nL (p.succ i)))from rfl)<|eW (d9 sl) rfl
  . exact(g.g5 x hx hs).elim (λq=>(hS.U9 x hx q).elim (λr=>(cq.mp r).elim (λr=>.inl (g.g2 x r)) λr=>.inr λj hj=>xE (ck.mp (aI.mp r▸hj)) λm e=>g.g6 m (fB e) j e) λr=>.inr λj hj=>g.g1 j (r j hj)) .inl
  · exact ak (bh g.g4) (ak (ct (ip _) _) hM1)
  . show jO p S'+Wt'.length<jO p S+(pR++[i]).length
    exact eW aJ<|aQ (bh g.g4) (bg _)
theorem Eo(hN:100<=N):au N (k+14) (.obj 518) [.fv p.fv] wl=some (nL (ae p.n),wl):=by
 have i2:=h.i2
 have u1:jO p (λ_=>false)<=30:=ak (rq (c:=1) (λ_=>aT 1) p.n) (by exact eW (Nat.mul_one ..)<|i2)
 have st:RI p (upd (λ_=>false) 0 true,[0],.unset,.unset,.unset):=by
  refine⟨⟨show upd (λ_=>false) 0 true 0=true from d8,λi hi=>aI.mp hi▸h.pos,λi hi hs=>.inl ?_⟩,?_,.un,.un,.un⟩
  . exact if q:i=0 then q▸cU _ else ff ((gi (f:=λ_=>false) q).symm.trans hs)
  . have:=vc (p:=p) (S1:=λ_=>false) h.pos rfl
    exact ak (bh this) (jZ u1)
 have e1:ev (au N (k+13)) (.comp true 1 [] (.attr (.var 0) 0) [0] .nil (.emit (.lit (.bool false)))) [.val p.fv,.unset,.unset,.unset,.unset,.unset] wl=some (.own (.ob (.list (lr p λ_=>false))),wl):=
  comp_map (own:=true) p.o (ae p.n) (aX:=[]) (cs:=[]) (x:=.fv (fH p)) rfl (kj (by refine eW (aj ..)<|eW aq ?_;lia)) rfl (λ_=>FV.bool false) (λ_ _=>rfl) (by refine eW aq ?_;lia)
 refine si (C:=au N (k+13)) (N:=N) (wl:=wl) (RF p) (λ_=>wl) (RI p) (λa=>jO p a.1+a.2.1.length) (upd (λ_=>false) 0 true,[0],.unset,.unset,.unset) (t:=.var 2) (b:=cP (bodyOf jl)) rfl rfl
  st (aQ st.2.1 (by lia)) (λa=> !a.2.1.isEmpty) (λa hI=>P6 (x:=.bor (.ob (.list (a.2.1.map nI)))) rfl rfl (by
      have hM:=hI.2.1
      show(if cg (a.2.1.map nI).length=true then some (!(a.2.1.map nI).isEmpty)else ab)=_;rw[if_pos (show cg _=true from decide_eq_true (by rw[aj];lia)),M1])) (λa=>C' h) λa=>Uv a λS Wt s3 s4 s5 hI hT e=>?_
 have hS:=hI.1;obtain rfl:Wt=[]:=Wt.casesOn (motive:=λW=>(!W.isEmpty)=false->W=[]) (λ_=>rfl) (λ_ _ h=>ff h.symm) hT
 have all:∀i,i<p.n->S i=true:=Md h hS.zero λi hi hs=>(hS.U9 i hi hs).resolve_left a8
 have e2:ev (au N (k+13)) (.comp false 1 [1] (.bj .range false (.cons (.ef (.user 20) (.var 0) .nil) .nil)) [0] (.cons (.idx (.var 1) (.var 0)) .nil) (.emit (.var 0))) (RF p (S,[],s3,s4,s5)) wl=some (.fv (nL (ae p.n)),wl):=by
  have:=gA (own:=false) (C:=au N (k+13)) (wl:=wl) (fr:=RF p (S,[],s3,s4,s5)) nI (ae p.n) (aX:=[1]) (cs:=[.bor (.ob (.list (lr p S)))]) (ifs:=.cons (.idx (.var 1) (.var 0)) .nil) (e:=.var 0) (oM h (k:=k+12) (s:=0) rfl) (cN (by lia)) rfl (λ_=>true) nI (λi hi=>by
   have hi:=aC.mp hi
   have t:eK (au N (k+13)) (.idx (.var 1) (.var 0)) [.val (nI i),.bor (.ob (.list (lr p S)))] wl=some (S i,wl):=jG rfl (de (x:=.bor (.ob (.list (lr p S)))) rfl rfl (nJ (eD hi) (by lia)));exact dR (all i hi▸t) pC) (λ_ _ _=>rfl) (by refine eW aq ?_;lia)
  rwa[if_neg ay,IJ.mpr λ_ _=>rfl]at this
 refine cM (k:=k+13) rfl<|bt rfl rfl<|ao (gD e1 rfl)<|ao (EE (k:=0) (d:=.bool true) (xs:=lr p λ_=>false) rfl rfl rfl ⟨by decide,by refine eW (aj ..)<|eW aq ?_;exact h.pos,by decide⟩)<|ao (gD (t:=.ob (.list ([0].map nI))) rfl rfl)<|ao ?_<|br (bZ e2)
 have e3:(lr p λ_=>false).set 0 (FV.bool true)=lr p (upd (λ_=>false) 0 true):=zl (F:=FV.bool);refine UZ ?_ e;delta RF;exact eL e3 rfl
theorem sZ(hN:100<=N):au N (k+15) (.obj 556) [.fv p.fv] wl=some (.none,wl):=by
 have i2:=h.i2
 have ln:ju .len false [.fv (nL (ae p.n))]=some (.fv (nI p.n)):=by
  have:=nE (xs:=(ae p.n).map nI) (by refine eW (aj ..)<|eW aq ?_;lia)
  rwa[aj,aq]at this
 refine xU (C:=au N (k+14)) (N:=N) (wl:=wl) (fr:=[.val p.fv,.val (nL (ae p.n)),.unset]) (λ(_:Unit) y=>[.val p.fv,.val (nL (ae p.n)),y]) (λ_=>wl) (λ_ _=>True) () (j:=2) (y0:=.unset) (it:=.bj .range false (.cons (.bj .len false (.cons (.var 1) .nil)) .nil)) (b:=bR (bodyOf mM))
  (x:=.fv (.range 0 p.n 1)) (cK (ah (cK (ah rfl aE) ln) aE) rfl) (cN (by lia)) rfl .un trivial (λ_ _=>rfl) (λ_ _ _=>rfl) (λi _ hi _=>
    .next () (.val (nI i)) (ao (kU (Mh (x:=i) (y:=i) (r:=true) (beq_self_eq_true _) (de (x:=.fv (nL (ae p.n))) rfl rfl (fx (eD (f:=nI) hi) (by lia))) rfl)) aY) (.va _) trivial) λ_ y _ _ e=>?_
 change ex _ _ _ _=some (.next,[.val p.fv,.val (nL (ae p.n)),_],wl)at e;exact cM (k:=k+14) rfl<|Ai rfl rfl<|ao (aZ (aG (ah rfl aE) (Eo h (k:=k) hN)) rfl)<|ao e<|ao (kU (tr (x:=p.n) (y:=p.n) (decide_eq_false (UY _)) (cK (ah rfl aE) ln) (fm (c:=490) rfl aE rfl rfl (nR h (k:=k+13))))) aY
end
theorem Be{es:List (Int×FV)}{i:Int}(h:∀e∈es,e.1≠i):dD es i d=es++[(i,d)]:=by
 induction es with
 |nil=>rfl
 |cons e r ih=>
  show(if e.1=i then _ else _)=_;refine eW (if_neg (h e (a7)))<|eW (ih λe he=>h e (aW _ he)) ?_;rfl
noncomputable abbrev mq(f:Nat->Nat)(g:Nat->FV)(n:Nat):List (Int×FV):=(ae n).map λi=>((f i:Int),g i)
theorem B4{n:Nat}(inj:∀i,i<n->f i=f j->i=j)(hj:j<n):(mq f g n).lookup (f j:Int)=some (g j):=by
 have:∀l:List Nat,(∀a∈l,f a=f j->a=j)->j∈l->(l.map λi=>((f i:Int),g i)).lookup (f j:Int)=some (g j):=λl=>by
  induction l with
  |nil=>exactλ_ h=>absurd h a8
  |cons a r ih=>
   intro h1 h2;rw[bT,bL];by_cases q:f a=f j
   . rw[h1 a a7 q,beq_self_eq_true]
   . rw[show((f j:Int)==(f a:Int))=false by rw[beq_eq_false_iff_ne];exactλc=>q (jf.mp c).symm]
     refine ih (λb hb=>h1 b (aW _ hb)) ((a6.mp h2).resolve_left λc=>q (by exact eW c rfl))
 exact this _ (λa ha=>inj a (aC.mp ha)) (aC.mpr hj)
theorem B3{n:Nat}(inj:∀i,i<n->f i≠f n):dD (mq f g n) (f n:Int) (g n)=mq f g (n+1):=by
 rw[Be λe he=>?_,mq,mq,dJ,bf];rfl
 (refine bS (bO.mp he) λi hi q1=>?_;subst q1)
 have:=inj i (aC.mp hi)
 show(f i:Int)≠f n;lia
theorem LB{α:Type}{G:α->FV}{c:Nat->α}{n:Nat}{v:α}(inj:∀i,i<n->f i=f j->i=j)(hj:j<n):dD (mq f (λi=>G (c i)) n) (f j:Int) (G v)=mq f (λi=>G (upd c j v i)) n:=by
 have:∀l:List Nat,l.Nodup->(∀a∈l,f a=f j->a=j)->j∈l->dD (l.map λi=>((f i:Int),G (c i))) (f j:Int) (G v)=l.map λi=>((f i:Int),G (upd c j v i)):=λl=>by
  induction l with
  |nil=>exactλ_ _ h=>absurd h a8
  |cons a r ih=>
   intro h0 h1 h2;rw[cp]at h0
   show(if(f a:Int)=f j then _ else _)=_;by_cases q:a=j
   . subst q
     refine eW (if_pos rfl)<|eW bT<|eW d8 ?_;refine congrArg _ (dA λb hb=>?_);exact eW (gi (show b≠a fromλc=>h0.1 (c▸hb))) rfl
   . have:f a≠f j:=λc=>q (h1 a a7 c)
     rw[if_neg (by lia),bT,gi q,ih h0.2 (λb hb=>h1 b (aW _ hb)) ((a6.mp h2).resolve_left λc=>q c.symm)]
 exact this _ List.nodup_range (λa ha=>inj a (aC.mp ha)) (aC.mpr hj)
theorem yR{n:Nat}{own:Bool}{aX:List Nat}(h1:ev C it fr wl=some (x,wl))(h2:items x=some ((ae n).map λi=>nI (f i)))(h3:fX fr aX=some cs)(inj:∀i j,i<j->j<n->f i≠f j)(hn:n<=1000)
 (h5:∀i,i<n->ev C e (.val (nI (f i))::cs) wl=some (.fv (g i),wl)):ev C (.rR own 1 aX it 0 e) fr wl=some (if own then .own (.ob (.dict (mq f g n)))else .fv (.dict (mq f g n)),wl):=
 have hl:((ae n).map λi=>nI (f i)).length=n:=(aj _).trans aq
 bS (yw (F:=λ(a:List Slot×List (Int×FV)×WL) k=>Pu 0 a (λf_=>ev C e f_ a.2.2) k) (λi a=>∃y,Y y/\a=(y::cs,mq f g i,wl)) ((ae n).map λi=>nI (f i)) 0 (bD 1 .unset++cs,[],wl) ⟨_,.un,rfl⟩ (λj v a hj q=>bS q λy hy ea=>xA (JN hj) λD3 ev=>by
  subst ea ev;exact eW (dY ..)<|⟨(.val (nI (f j))::cs,mq f g (j+1),wl),(bs rfl (bs (jB (fr:=y::cs) (i:=0) rfl hy) (bs (h5 j D3) rfl))).trans (congrArg (λz=>some (Slot.val (nI (f j))::cs,z,wl)) (B3 λi hi=>inj i j hi D3)),_,.va _,rfl⟩)) λa ea q=>bS q λy _ q=>by
  rw[hl,dY]at q;exact Lq.trans (bs h1 (bs h2 (bs h3 (bs (ea.trans (congrArg some q)) (if_pos (decide_eq_true (by exact eW (aj ..)<|eW aq<|ll hn rfl)))))))
def setOk(s:Slot):Prop:=∀(fr:List Slot)(i:Nat)(v:Slot),fr[i]?=some s->setSlot fr i v=some (fr.set i v)
theorem Qy:setOk .unset:=λfr i v h=>bs h rfl
theorem Ss:setOk (.val d):=λfr i v h=>bs h rfl
theorem Su{t:OT}:setOk (.own t):=λfr i v h=>bs h rfl
noncomputable abbrev oK(p:Prog)(j d:Nat):List Int:=(ae d).map λi=>(p.B (j+1+i):Int)
def Prog.wait(p:Prog)(t:Nat):List FV:=if t<p.m then[nI (p.B t)]else[]
section
variable (h:p.Ok N)
include h
theorem Prog.Ok.inj(D4:i<j)(hj:j<p.m):p.B i≠p.B j:=bx (h.mono D4 (bW hj))
theorem Prog.Ok.OS(hi:i<p.m)(hj:j<p.m)(e:p.B i=p.B j):i=j:=by
 rcases g8 i j with q|q|q
 . exact absurd e (h.inj q hj)
 . exact q
 . exact absurd e.symm (h.inj q hi)
noncomputable def Prog.jt(p:Prog)(j:Nat):List Nat:=if j+1<p.m then[p.B (j+1)]else[]
noncomputable def nQ(p:Prog)(j n:Nat):List Nat:=if j+1<p.m/\p.C j<p.B j+n then[p.B (j+1)]else[]
def YE(p:Prog)(j:Nat)(a:List Nat)(y:Slot):List Slot:=[.val p.fv,.val (nI (p.B j)),.own (.ob (.set (a.map λ(n:Nat)=>(n:Int)))),y]
theorem H8{n:Nat}(hj:j<p.m)(hn:n<p.B (j+1)-p.B j):Turn (hU (au N (k+12)) N (bR (bodyOf oZ)) (YE p j (nQ p j n) (.val (nI (p.B j+n))),wl)) (YE p j) (λ_=>wl) λa=>a=nQ p j (n+1):=by
 have i2:=h.i2
 have hBn:p.B (j+1)<=p.n:=h.Bm▸h.le (show j+1<=p.m from hj) (aT _)
 have UD:=fu hn
 have hi:p.B j+n<p.n:=az UD hBn
 have hP:=h.Iy hi hj (aP _ _) UD
 have lw:=(wX h (k:=k+2) (wl:=wl) hi).2.2.2.1;by_cases hw:(p.r (p.B j+n)).w=4
 . rw[hw]at lw
   refine jN (h.call _ hi hw) λq1 q2 q3=>?_;rw[hP]at q1 q2 q3
   have e0:nQ p j n=[]:=if_neg λc=>b9 _ (q3▸c.2);exact eW e0<|.next [p.B (j+1)] (.val (nI (p.B j+n))) (ao (cz (jG rfl (aG (ah (de (x:=.fv (fH p)) rfl rfl (tQ h hi)) aE) lw)) (ao (EG (k:=(p.B (j+1):Int)) (xs:=[]) rfl (fm (c:=490) rfl (ah rfl aE) rfl rfl (q2▸i5 h (k:=k) hi (.inr (.inr hw)))) ⟨by decide,bJ _,by lia⟩) aY)) rfl) (.va _)
    (if_pos ⟨q1,q3▸bg _⟩).symm
 . rw[show((p.r (p.B j+n)).w==4)=false from beq_eq_false_iff_ne.mpr hw]at lw
   refine .next (nQ p j n) (.val (nI (p.B j+n))) (ao (kU (jG rfl (aG (ah (de (x:=.fv (fH p)) rfl rfl (tQ h hi)) aE) lw))) aY) (.va _) ?_
   delta nQ;by_cases q:j+1<p.m/\p.C j<p.B j+(n+1)
   . rw[if_pos q,if_pos ⟨q.1,gL (mY q.2) λc=>hw (c▸(h.calls j q.1).2.2)⟩]
   . rw[if_neg q,if_neg λc=>q ⟨c.1,dm c.2⟩]
theorem Ac(hj:j<p.m):au N (k+13) (.obj 525) [.fv p.fv,.fv (nI (p.B j))] wl=some (nL (p.jt j),wl):=by
 have i2:=h.i2
 have oo:=h.U0 j hj
 have hBn:p.B (j+1)<=p.n:=h.Bm▸h.le (show j+1<=p.m from hj) (aT _)
 have c0:[]=nQ p j 0:=(if_neg λc=>b9 _ (az c.2 (h.calls j c.1).1)).symm
 have c1:nQ p j (p.B (j+1)-p.B j)=p.jt j:=by
  delta nQ Prog.jt;by_cases q:j+1<p.m
  . rw[if_pos q,if_pos ⟨q,jy (h.calls j q).2.1 (cH (bW oo)).symm⟩]
  . rw[if_neg q,if_neg (λc=>q c.1)]
 exact xU (C:=au N (k+12)) (N:=N) (wl:=wl) (fr:=YE p j [] .unset) (YE p j) (λ_=>wl) (λn a=>a=nQ p j n) [] (j:=3) (y0:=.unset) (it:=.bj .range false (.cons (.var 1) (.cons (.ef (.user 24) (.var 0) (.cons (.var 1) .nil)) .nil))) (b:=bR (bodyOf oZ)) (f:=λn=>nI (p.B j+n))
  (x:=.fv (.range (p.B j) (p.B (j+1)) 1)) (cK (ah rfl (ah (fm (c:=490) rfl (ah rfl aE) rfl rfl (Cc h (k:=k+11) hj)) aE)) rfl) (rE (bW oo) (ll (ak hBn i2) rfl)) rfl .un c0 (λ_ _=>rfl) (λ_ _ _=>rfl) (λn a hn ha=>ha▸H8 h hj hn)
  λa y _ hI e=>cM (k:=k+12) rfl<|bt rfl rfl<|ao (gD (t:=.ob (.set [])) rfl rfl)<|ao e<|br<|bZ<|cK (ah rfl aE) (by
   show some (EV.fv (.list ((fV (a.map λ(n:Nat)=>(n:Int))).map .int)))=_;refine eW hI<|eW c1 ?_;delta Prog.jt;split<;>rfl)
noncomputable def Prog.vW(p:Prog)(j:Nat):FV:=.set ((ae (p.m-(j+1))).map λi=>(p.B (j+1+i):Int))
abbrev Xz(p:Prog):FV:=.dict (mq p.B (λj=>nL (p.jt j)) p.m)
def Ry(p:Prog)(j:Nat)(y x z w:Slot):List Slot:=[.val p.fv,.val (Xz p),.own (.ob (.dict (mq p.B p.vW j))),y,x,z,w]
theorem Gi(t:Nat):(p.jt t).map nI=p.wait (t+1):=by delta Prog.jt Prog.wait;split<;>rfl
theorem Gj(ht:t<p.m):jq (.fv (Xz p)) (.fv (nI (p.B t))) wl=some (.fv (nL (p.jt t))):=ms (B4 (λi hi e=>h.OS hi ht e) ht)
theorem LV(t:Nat):(p.jt t).length<=1:=by delta Prog.jt;split;exact aT _;exact aU _
theorem A6{d:Nat}(hd:j+1+d<p.m):(p.B (j+1+d):Int)∉oK p j d:=λc=>bS (bO.mp c) λi hi e=>bx (h.mono (eR (aC.mp hi) _) (bW hd)) (pX e)
theorem DD{s6:Slot}(hN:10<=N)(hj:j<p.m)(h6:Y s6)(kk:∀z,Y z->ex (au N (k+13)) N (.while (.var 5) (cP (bR (bodyOf kQ)))) (Ry p j (.val (nI (p.B j))) (.own (.ob (.set []))) (.own (.ob (.list (p.wait (j+1))))) s6,wl)=
 some (.next,Ry p j (.val (nI (p.B j))) (.own (.ob (.set (oK p j (p.m-(j+1)))))) (.own (.ob (.list (p.wait p.m)))) z,wl)->P):P:=
 si (C:=au N (k+13)) (N:=N) (wl:=wl) (fr:=Ry p j (.val (nI (p.B j))) (.own (.ob (.set []))) (.own (.ob (.list (p.wait (j+1))))) s6) (λ(a:Nat×Slot)=>Ry p j (.val (nI (p.B j))) (.own (.ob (.set (oK p j a.1)))) (.own (.ob (.list (p.wait (j+1+a.1))))) a.2) (λ_=>wl) (λa=>j+1+a.1<=p.m/\Y a.2) (λa=>p.m-a.1) (0,s6) (t:=.var 5) (b:=cP (bR (bodyOf kQ)))
  rfl rfl ⟨hj,h6⟩ (aQ (ak (pf _ _) h.m3.2) (az (by decide) hN)) (λa=>decide (j+1+a.1<p.m)) (λa _=>P6 (x:=.bor (.ob (.list (p.wait (j+1+a.1))))) rfl rfl (by
   delta Prog.wait;split
   . rename_i q;exact eW (decide_eq_true q) rfl
   . rename_i q;exact eW (decide_eq_false q) rfl)) (λa=>J6 a λd s6 g hT=>by
   have ht:j+1+d<p.m:=of_decide_eq_true hT
   have m3:=h.m3.2
   have hB:=h.Ov ht
   have i2:=h.i2
   have sl:(oK p j d).length=d:=(aj _).trans aq
   have e1:jv (oK p j d) (p.B (j+1+d))=oK p j (d+1):=(if_neg λc=>A6 h ht (gS.mp c)).trans (by rw[oK,oK,dJ,bf];rfl);refine .mk .next (d+1,.val (nI (p.B (j+1+d)))) (ao (Ml (ys:=[]) (d:=nI (p.B (j+1+d))) (by show some (Slot.own (.ob (.list (p.wait (j+1+d)))))=_;delta Prog.wait;exact eW (if_pos ht) rfl) (av rfl) (jB rfl g.2))<|ao (cz (fJ rfl (y:=.bor (.ob (.set (oK p j d)))) rfl (by
    show((some ((oK p j d).contains (p.B (j+1+d):Int)):Option Bool).map (!·))=_;exact congrArg (λb=>some (!b)) (dX.mpr λc=>A6 h ht (gS.mp c)))) (ao (EG (k:=(p.B (j+1+d):Int)) (xs:=oK p j d) rfl rfl ⟨by refine eW sl ?_;lia,bJ _,by lia⟩)
    (ao (pS (xs:=[]) (ds:=(p.jt (j+1+d)).map nI) rfl (de (x:=.fv (Xz p)) rfl rfl (Gj h ht)) (decide_eq_true (by exact eW (aj ..)<|ak (ct (LV h _) _) (av rfl)))) aY))) ?_) fw ⟨⟨ht,.va _⟩,iX (aQ (jg d _) ht) (bg d)⟩
   exact eW (lp ..)<|eW (Gi h ..)<|eL e1 rfl)
  λa=>J6 a λd z g hT e=>kk z g.2 (by
   have ht:¬j+1+d<p.m:=of_decide_eq_false hT
   have e0:j+1+d=p.m:=Rr g.1 (cG.mp ht);exact eW (show p.m-(j+1)=d from(congrArg (·-(j+1)) e0.symm).trans (cW ..))<|eL e0<|e)
theorem Es(hN:10<=N):au N (k+14) (.obj 530) [.fv p.fv] wl=some (.dict (mq p.B p.vW p.m),wl):=by
 have m3:p.m<=1000:=ll h.m3.2 rfl
 have e1:ev (au N (k+13)) (.rR false 1 [0] (.attr (.var 0) 4) 0 (.call (.bc (.obj 525)) (.cons (.var 1) (.cons (.var 0) .nil)))) [.val p.fv,.unset,.unset,.unset,.unset,.unset,.unset] wl=some (.fv (Xz p),wl):=
  yR (own:=false) (cs:=[.ro p.fv]) (x:=.fv (nL ((ae p.m).map p.B))) rfl (nG h) rfl (λi j D4 hj=>h.inj D4 hj) m3 (λi hi=>aG (ah rfl (ah rfl aE)) (Ac h (k:=k) hi))
 refine xU (C:=au N (k+13)) (N:=N) (wl:=wl) (fr:=Ry p 0 .unset .unset .unset .unset) (λ(a:Nat×Slot×Slot×Slot) y=>Ry p a.1 y a.2.1 a.2.2.1 a.2.2.2) (λ_=>wl) (λn a=>a.1=n/\setOk a.2.1/\setOk a.2.2.1/\Y a.2.2.2) (0,.unset,.unset,.unset) (j:=3) (y0:=.unset) (it:=.attr (.var 0) 4) (b:=bR (bodyOf kQ))
  (x:=.fv (nL ((ae p.m).map p.B))) rfl (nG h) rfl .un ⟨rfl,Qy,Qy,.un⟩ (λ_ _=>rfl) (λ_ _ _=>rfl) (λj a hj=>NY a λj' s4 s5 s6 g=>fA g λ(e:j'=j) h4 h5 h6=>by
    clear g;subst e;refine DD h (k:=k) (wl:=wl) hN hj h6 λZr h6' ew=>?_
    have Z3:jP (Ry p j' (.val (nI (p.B j'))) s4 s5 s6) [4,5] [.own (.ob (.set [])),.own (.ob (.list (p.wait (j'+1))))]=some (Ry p j' (.val (nI (p.B j'))) (.own (.ob (.set []))) (.own (.ob (.list (p.wait (j'+1))))) s6):=
     show(setSlot _ 4 _).bind _=_ from bs (h4 _ 4 _ rfl) (show(setSlot _ 5 _).bind _=_ from bs (h5 _ 5 _ rfl) rfl)
    refine .next (j'+1,.val (p.vW j'),.own (.ob (.list (p.wait p.m))),Zr) (.val (nI (p.B j'))) (ao (gm (xs:=[.own (.ob (.set [])),.own (.ob (.list (p.wait (j'+1))))]) (ah rfl (ah (cK (ah (de (x:=.fv (Xz p)) rfl rfl (Gj h hj)) aE) ?_) aE)) Z3)<|ao ew<|ao rfl<|ao (Mk (k:=(p.B j':Int)) (es:=mq p.B p.vW j') (d:=p.vW j') rfl rfl rfl (decide_eq_true (by refine eW (aj ..)<|eW aq ?_;lia))) ?_) (.va _) ⟨rfl,Ss,Su,h6'⟩
    . show(listItems (.fv (nL (p.jt j')))).map _=_
      exact eW (show listItems (.fv (nL (p.jt j')))=items (.fv (nL (p.jt j')))from rfl)<|eW (d9 (ll (LV h j') rfl))<|eW (Gi h ..) rfl
    . refine eW (B3 λi hi=>h.inj hi hj) ?_;rfl) λa y _=>NY a λn' s4 s5 s6 g e2=>?_
 have UD:n'=p.m:=g.1;subst UD;exact cM (k:=k+13) rfl<|bt rfl rfl<|ao (aZ e1 rfl)<|ao (gD (t:=.ob (.dict [])) rfl rfl)<|ao e2<|ao rfl<|br (bZ rfl)
end
section
variable (h:p.Ok N)
include h
theorem vT:p.locals.length<=30:=ak (dF _ _) (by exact eW aq<|h.i2)
def rD(p:Prog)(c:Nat->Nat):Nat:=sumTo (λj=>j+1-c j) p.m
abbrev Q4(p:Prog)(c:Nat->Nat):List (Int×FV):=mq p.B (λj=>nI (c j)) p.m
def MH(p:Prog)(c:Nat->Nat)(ch:Bool)(x y z:Slot):List Slot:=[.val p.fv,.own (.ob (.dict (Q4 p c))),.val (.bool ch),x,y,z]
omit h in
theorem U_{x y:Slot}{u v:FV}(hx:fr[i]?=some x)(h1:Y x)(hy:(fr.set i (.val u))[j]?=some y)(h2:Y y):jP fr [i,j] [.fv u,.fv v]=some ((fr.set i (.val u)).set j (.val v)):=
 show(setSlot fr i (.val u)).bind _=_ from bs (jB hx h1) (show(setSlot _ j (.val v)).bind _=_ from bs (jB hy h2) rfl)
theorem wD(ht:t<p.m):((mq p.B g p.m).lookup (p.B t:Int)).map EV.fv=some (.fv (g t)):=ms (B4 (λi hi e=>h.OS hi ht e) ht)
structure CIn(p:Prog)(c:Nat->Nat)(a:(Nat->Nat)×Bool×Slot×Slot):Prop where
 g1:∀j,j<p.m->a.1 j<=j+1
 g2:rD p a.1+a.2.1.toNat<=rD p c
 g3:Y a.2.2.1
 g4:Y a.2.2.2
omit h in
theorem KP{c:Nat->Nat}(hj:j<p.m)(h1:c j<v)(h2:v<=j+1):rD p (upd c j v)<rD p c:=by
 have lt:=oG (f:=λj=>j+1-c j) (g:=λi=>i+1-upd c j v i) (i:=j) (λi hi=>by exact eW (gi hi) rfl) p.m hj;rw[d8]at lt;exact AJ lt (iX (az h1 h2) h1)
theorem Eg(hN:100<=N){c:Nat->Nat}{n:Nat}{a:(Nat->Nat)×Bool×Slot×Slot}(pN:p.locals[n]?=some i):CIn p c a->
 Turn (hU (au N (k+13)) N (bR (cP (bodyOf fp))) (MH p a.1 a.2.1 (.val (nI i)) a.2.2.1 a.2.2.2,wl)) (λ(a:(Nat->Nat)×Bool×Slot×Slot) y=>MH p a.1 a.2.1 y a.2.2.1 a.2.2.2) (λ_=>wl) (CIn p c):=
 NY a λc1 MP s4 s5 g=>xA ((qC h).mp (aF pN)) λhi hw=>jN (h.call i hi hw) λq1 q2 q3=>xA (h.part i hi) λhP _=>by
  have i2:=h.i2
  have stp:ex (au N (k+13)) N (o6 0 (bR (cP (bodyOf fp)))) (MH p c1 MP (.val (nI i)) s4 s5,wl)=some (.next,MH p c1 MP (.val (nI i)) (.val (nI (c1 (p.P i)+1))) (.val (nI (p.B (p.P i+1)))),wl):=
   gm (xs:=[.fv (nI (c1 (p.P i)+1)),.fv (nI (p.B (p.P i+1)))]) (ah (dh (x:=.fv (nI (c1 (p.P i)))) (de (x:=.bor (.ob (.dict (Q4 p c1)))) rfl (fm (c:=490) rfl (ah rfl aE) rfl rfl (lE h (k:=k+12) hi (ak (by decide) hN))) (wD h hP)) rfl rfl)
    (ah (q2▸fm (c:=490) rfl (ah rfl aE) rfl rfl (i5 h (k:=k+1) hi (.inr (.inr hw)))) aE)) (U_ rfl g.g3 rfl g.g4)
  have t:eK (au N (k+13)) (.cmp .Lt (.idx (.var 1) (.var 5)) (.var 4)) (MH p c1 MP (.val (nI i)) (.val (nI (c1 (p.P i)+1))) (.val (nI (p.B (p.P i+1))))) wl=some (decide (c1 (p.P i+1)<c1 (p.P i)+1),wl):=Gr (de (x:=.bor (.ob (.dict (Q4 p c1)))) rfl rfl (wD h q1)) rfl
  have b1:=g.g1 _ hP;by_cases q:c1 (p.P i+1)<c1 (p.P i)+1
  . rw[decide_eq_true q]at t
    refine .next (upd c1 (p.P i+1) (c1 (p.P i)+1),true,.val (nI (c1 (p.P i)+1)),.val (nI (p.B (p.P i+1)))) (.val (nI i)) (ao stp<|ao (cz t (ao (Mk (k:=(p.B (p.P i+1):Int)) (d:=nI (c1 (p.P i)+1)) (es:=Q4 p c1) rfl rfl rfl (decide_eq_true (by refine eW (aj ..)<|eW aq ?_;have:=h.m3.2;lia))) (ao (aZ rfl rfl) aY))) ?_) (.va _)
     ⟨λj hj=>if r:j=p.P i+1 then ak (bh (if_pos r)) (r▸cB b1)else ak (bh (if_neg r)) (g.g1 j hj),ak (KP q1 q (cB b1)) (ak (aP _ _) g.g2),.va _,.va _⟩
    have:=LB (f:=p.B) (G:=nI) (c:=c1) (n:=p.m) (j:=p.P i+1) (v:=c1 (p.P i)+1) (λi hi e=>h.OS hi q1 e) q1;exact eW this rfl
  . rw[decide_eq_false q]at t
    exact .next (c1,MP,.val (nI (c1 (p.P i)+1)),.val (nI (p.B (p.P i+1)))) (.val (nI i)) (ao stp<|ao (kU t) aY) (.va _) ⟨g.g1,g.g2,.va _,.va _⟩
def CI(p:Prog)(a:(Nat->Nat)×Bool×Slot×Slot×Slot):Prop:=(∀j,j<p.m->a.1 j<=j+1)/\Y a.2.2.1/\Y a.2.2.2.1/\Y a.2.2.2.2
theorem B7(hN:100<=N){a:(Nat->Nat)×Bool×Slot×Slot×Slot}:CI p a->a.2.1=true->
 yZ (hU (au N (k+13)) N (cP (bodyOf fp)) (MH p a.1 a.2.1 a.2.2.1 a.2.2.2.1 a.2.2.2.2,wl)) (λa=>MH p a.1 a.2.1 a.2.2.1 a.2.2.2.1 a.2.2.2.2) (λ_=>wl) λa'=>CI p a'/\2*rD p a'.1+a'.2.1.toNat<2*rD p a.1+a.2.1.toNat:=
 Uv a λc ch s3 s4 s5 hI hT=>fA hI λhc h3 h4 h5=>by
  clear hI;change ch=true at hT;subst hT;exact tS (C:=au N (k+13)) (N:=N) (wl:=wl) (fr:=MH p c false s3 s4 s5) (λ(a:(Nat->Nat)×Bool×Slot×Slot) y=>MH p a.1 a.2.1 y a.2.2.1 a.2.2.2) (λ_=>wl) (λ_=>CIn p c) (c,false,s4,s5) (j:=3) (y0:=s3) (it:=.call (.bc (.obj 513)) (.cons (.var 0) .nil)) (b:=bR (cP (bodyOf fp))) (l:=p.locals) (g:=nI)
   (x:=.fv (nL p.locals)) (aG (ah rfl aE) (tY h (k:=k+2))) (d9 (ll (vT h) rfl)) rfl h3 ⟨hc,aT _,h4,h5⟩ (λ_ _=>rfl) (λ_ _ _=>rfl) (λn i a hi g=>Eg h hN hi g)
   λa y hy=>NY a λc2 ch2 s4' s5' g el=>.mk .next (c2,ch2,y,s4',s5') (ao (aZ rfl rfl)<|ao el aY) fw ⟨⟨g.g1,hy,g.g3,g.g4⟩,
    dZ (ak (ct (ER _ (uy 1)) _) (ak (bh (Y8 2 _ _).symm) (iY 2 g.g2)))⟩
theorem Cd(hN:100<=N):∃c:Nat->Nat,(∀j,j<p.m->c j<=j+1)/\au N (k+14) (.obj 535) [.fv p.fv] wl=some (.dict (mq p.B (λj=>nI (c j)) p.m),wl):=by
 have e1:ev (au N (k+13)) (.rR true 1 [] (.attr (.var 0) 4) 0 (.lit (.int 1))) [.val p.fv,.unset,.unset,.unset,.unset,.unset] wl=some (.own (.ob (.dict (Q4 p λ_=>1))),wl):=
  yR (own:=true) (cs:=[]) (x:=.fv (nL ((ae p.m).map p.B))) rfl (nG h) rfl (λi j D4 hj=>h.inj D4 hj) (ll h.m3.2 rfl) (λi hi=>rfl)
 have abG:rD p (λ_=>1)<=6:=(by decide+kernel:∀m,m<4->sumTo (λj=>j+1-1) m<=6) p.m (dZ h.m3.2);refine si (C:=au N (k+13)) (N:=N) (wl:=wl) (fr:=MH p (λ_=>1) true .unset .unset .unset) (λa=>MH p a.1 a.2.1 a.2.2.1 a.2.2.2.1 a.2.2.2.2) (λ_=>wl) (CI p) (λa=>2*rD p a.1+a.2.1.toNat) (λ_=>1,true,.unset,.unset,.unset) (t:=.var 2) (b:=cP (bodyOf fp)) rfl rfl ⟨λj _=>cB (aU j),.un,.un,.un⟩
  (by show 2*rD p (λ_=>1)+1<N;lia) (λa=>a.2.1) (λa _=>jG rfl rfl) (λa=>B7 h hN) λa=>Uv a λc ch s3 s4 s5 hI hT e=>?_
 change ch=false at hT;subst hT;exact⟨c,hI.1,cM (k:=k+13) rfl<|bt rfl rfl<|ao (gD e1 rfl)<|ao (aZ rfl rfl)<|ao e<|ao rfl<|br (bZ rfl)⟩
def UX(p:Prog)(x y z w:Slot):List Slot:=[.val p.fv,.val (nL p.locals),.val (.dict (mq p.B p.vW p.m)),x,y,z,w]
theorem yP(ht:t<p.m):jq (.fv (.dict (mq p.B g p.m))) (.fv (nI (p.B t))) wl=some (.fv (g t)):=wD h ht
theorem JM(hN:100<=N){n:Nat}{a:Slot×Slot}(pN:p.locals[n]?=some i):Y a.1/\Y a.2->Turn (hU (au N (k+14)) N (bR (bodyOf jo)) (UX p (.val (nI i)) a.1 a.2 .unset,wl)) (λ(a:Slot×Slot) y=>UX p y a.1 a.2 .unset) (λ_=>wl) λa=>Y a.1/\Y a.2:=
 J6 a λs4 s5 g=>xA g λh4 h5=>xA ((qC h).mp (aF pN)) λhi hw=>jN (h.call i hi hw) λq1 q2 q3=>xA (h.part i hi) λhP _=>by
  have i2:=h.i2
  have lt:=h.U0 _ hP;refine .next (.val (nI (p.B (p.P i))),.val (nI (p.B (p.P i+1)))) (.val (nI i)) (ao (gm (xs:=[.fv (nI (p.B (p.P i))),.fv (nI (p.B (p.P i+1)))]) (ah (fm (c:=490) rfl (ah rfl aE) rfl rfl (lE h (k:=k+13) hi (ak (by decide) hN))) (ah (q2▸fm (c:=490) rfl (ah rfl aE) rfl rfl (i5 h (k:=k+2) hi (.inr (.inr hw)))) aE)) (U_ rfl h4 rfl h5))<|
   ao (kU (Ah (f5 (b:=false) (gJ (x:=p.B (p.P i+1)) (y:=p.B (p.P i)) (by rw[beq_eq_false_iff_ne];lia) rfl rfl) λ_=>f5 (b:=false) (fJ rfl (de (x:=.fv (.dict (mq p.B p.vW p.m))) rfl rfl (yP h q1)) ?_) λ_=>r_))) aY) (.va _) ⟨.va _,.va _⟩
  show some (((ae (p.m-(p.P i+1+1))).map λx=>(p.B (p.P i+1+1+x):Int)).contains (p.B (p.P i):Int))=_;refine congrArg some (dX.mpr λc=>bS (bO.mp (gS.mp c)) λx hx e=>e_ (h.mono (i:=p.P i) (j:=p.P i+1+1+x) ?_ ?_) (pX e))
  . exact az (dm (bg _)) (aP _ _)
  . exact bW (fu (aC.mp hx))
theorem wQ(hN:100<=N):au N (k+15) (.obj 563) [.fv p.fv] wl=some (.none,wl):=by
 have i2:=h.i2
 have lc:=vT h
 have t:∀(fr:List Slot),fr[1]?=some (.val (nL p.locals))->eK (au N (k+14)) (.un .Not (.var 1)) fr wl=some (p.locals.isEmpty,wl):=λfr hf=>by
  have:=Gq (C:=au N (k+14)) (fr:=fr) (wl:=wl) (a:=.var 1) (w1:=wl) (b:= !p.locals.isEmpty) (P6 (x:=.fv (nL p.locals)) rfl (by exact eW fi<|eW hf rfl) (by
   show(if cg (p.locals.map nI).length=true then some (!(p.locals.map nI).isEmpty)else ab)=_;rw[if_pos (show cg _=true from decide_eq_true (by rw[aj];exact ll lc rfl)),M1]))
  rwa[Bool.not_not]at this
 have e0:ev (au N (k+14)) (.call (.bc (.obj 513)) (.cons (.var 0) .nil)) [.val p.fv,.unset,.unset,.unset,.unset,.unset,.unset] wl=some (.fv (nL p.locals),wl):=aG (ah rfl aE) (tY h (k:=k+3));induction hl:p.locals.isEmpty using ax with
 |true=>exact cM (k:=k+14) rfl<|bt rfl rfl<|ao (aZ e0 rfl)<|br (cz ((t _ rfl).trans (by exact eW hl rfl)) (br (bZ rfl)))
 |false=>
  exact bS (Cd h (k:=k) (wl:=wl) hN) λc hc ec=>
   tS (C:=au N (k+14)) (N:=N) (wl:=wl) (fr:=UX p .unset .unset .unset .unset) (λ(a:Slot×Slot) y=>UX p y a.1 a.2 .unset) (λ_=>wl) (λ_ a=>Y a.1/\Y a.2) (.unset,.unset) (j:=3) (y0:=.unset) (it:=.var 1) (b:=bR (bodyOf jo)) (x:=.fv (nL p.locals)) (l:=p.locals) (g:=nI) rfl (d9 (ll lc rfl)) rfl .un ⟨.un,.un⟩ (λ_ _=>rfl) (λ_ _ _=>rfl) (λn i a hi g=>JM h hN hi g) λa y hy=>J6 a λs4 s5 g e1=>
   tS (C:=au N (k+14)) (N:=N) (wl:=wl) (fr:=UX p y s4 s5 (.val (.dict (Q4 p c)))) (λ(_:Unit) y=>UX p y s4 s5 (.val (.dict (Q4 p c)))) (λ_=>wl) (λ_ _=>True) () (j:=3) (y0:=y) (it:=.var 1) (b:=bR (lZ 5 (bodyOf jo))) (x:=.fv (nL p.locals)) (l:=p.locals) (g:=nI) rfl (d9 (ll lc rfl)) rfl hy trivial (λ_ _=>rfl) (λ_ _ _=>rfl) (λn i _ hi _=>xA ((qC h).mp (aF hi)) λhi hw=>xA (h.part i hi) λhP _=>by
    have:=hc _ hP
    have m3:=h.m3;exact .next () (.val (nI i)) (ao (kU (T7 (x:=c (p.P i)) (y:=8) (decide_eq_false (by lia)) (de (x:=.fv (.dict (Q4 p c))) rfl (fm (c:=490) rfl (ah rfl aE) rfl rfl (lE h (k:=k+13) hi (ak (by decide) hN))) (yP h hP)) rfl)) aY) (.va _) trivial) λ_ y2 _ _ e2=>
   cM (k:=k+14) rfl<|Ai rfl rfl<|ao (aZ e0 rfl)<|ao (kU ((t _ rfl).trans (by exact eW hl rfl)))<|ao (aZ (aG (ah rfl aE) (Es h (k:=k) (ak (by decide) hN))) rfl)<|ao e1<|ao (aZ (aG (ah rfl aE) ec) rfl)<|ao e2 aY
theorem z_(hN:100<=N)(hx:x.arg.GX=some x)(hl:Ci false [x]=some (.fv (fH p))):au N (k+16) (.obj 571) [x] wl=some (p.fv,wl):=by
 have i2:=h.i2
 have pos:=h.pos
 have v:ev (au N (k+15)) (.var 0) [x.arg,.val (.int 4096),.unset] wl=some (x,wl):=by
  show(x.arg.GX).map (λy=>(y,wl))=_;exact eW hx rfl
 exact cM (k:=k+15) rfl<|bt rfl rfl<|ao (aZ (aG (ah v aE) (Et (k:=k+3) h hx hl)) rfl)<|ao (kU (gJ (x:=p.n) (y:=0) (by rw[beq_eq_false_iff_ne];lia) (fm (c:=490) rfl aE rfl rfl (nR h (k:=k+14))) rfl))<|
  ao (kU (Io (x:=p.n) (y:=4096) (decide_eq_false (by lia)) rfl rfl))<|ao (Gs (aG (ah rfl aE) (wO h (k:=k+1) (ak (by decide) hN))))<|ao (Gs (aG (ah rfl aE) (xV h (k:=k+1))))<|ao (Gs (aG (ah rfl aE) (sZ h (k:=k) hN)))<|ao (Gs (aG (ah rfl aE) (wQ h (k:=k) hN)))<|br (bZ rfl)
end
noncomputable def ry(L:Nat->Nat):List Nat->Nat
 |[]=>0
 |j::r=>L j|||ry L r
theorem l9:∀l,(ry L l).testBit t=true↔∃j∈l,(L j).testBit t=true
 |[]=>by simp[ry]
 |j::r=>by simp[ry,ig,l9 r]
theorem Bg:ry L (l++[j])=ry L l|||L j:=cx λt=>by
 refine iW cT<|iW (l9 ..)<|eW (ig ..)<|eW (gO ..)<|iW (l9 ..) ?_;simp only[cq,aI];constructor
 . rintro ⟨x,q|q,e⟩
   . exact .inl ⟨x,q,e⟩
   . rw[q]at e;exact .inr e
 . rintro (⟨x,q,e⟩|e)
   . exact⟨x,.inl q,e⟩
   . exact⟨j,.inr rfl,e⟩
theorem Dm{n:Nat}:∀l,(∀j∈l,L j<2^n)->ry L l<2^n
 |[],_=>xv (by decide)
 |j::r,h=>MZ (h j a7) (Dm r λx hx=>h x (aW _ hx))
def fG(nx:Nat->List Nat)(G K L:Nat->Nat)(i:Nat):Nat:=n4 (ry L (nx i)) (K i)|||G i
abbrev bits(G:Nat->Nat):Nat->Nat->Prop:=λi t=>(G i).testBit t=true
theorem pG{G K:Nat->Nat}:(fG nx G K L i).testBit t=true↔((∃j∈nx i,(L j).testBit t=true)/\¬bits K i t)\/bits G i t:=by
 delta fG;refine eW (ig ..)<|eW (gO ..)<|eW (yy ..)<|eW (bY ..)<|iW (l9 ..)<|eW (Bool.not_eq_true' ..) ?_;simp[bits]
theorem OE(h:∀t,a.testBit t=true->b.testBit t=true):a<=b:=by
 have:a|||b=b:=cx λt=>by
  refine eW (ig ..) ?_;induction q:a.testBit t using ax with
  |true=>exact eW (h t q) rfl
  |false=>rfl
 exact eL this<|Nat.left_le_or
structure Mj(p:Prog)(G K L:Nat->Nat):Prop where
 lt:∀i,i<p.n->L i<2^64
 sound:∀i t,i<p.n->(L i).testBit t=true->kX p.n p.succ (bits G) (bits K) i t
 grow:∀i t,i<p.n->(L i).testBit t=true->(fG p.succ G K L i).testBit t=true
def rC(p:Prog)(L:Nat->Nat):Nat:=sumTo (λi=>2^64-L i) p.n
section
variable (h:p.Ok N){G K:Nat->Nat}(hG:∀i,i<p.n->G i<2^64)
include h hG
theorem Mj.put(s:Mj p G K L)(hi:i<p.n):Mj p G K (upd L i (fG p.succ G K L i))/\(fG p.succ G K L i≠L i->rC p (upd L i (fG p.succ G K L i))<rC p L):=by
 have lt:fG p.succ G K L i<2^64:=by
  delta fG;refine MZ (aQ (pf _ _) (Dm _ λj hj=>s.lt j (h.j5 hi hj).1)) (hG i hi)
 have up:∀j t,j<p.n->(L j).testBit t=true->(upd L i (fG p.succ G K L i) j).testBit t=true:=λj t hj q=>by
  by_cases e:j=i
  . subst e;exact eW d8<|s.grow j t hj q
  . rwa[gi e]
 have mono:∀j t,j<p.n->(fG p.succ G K L j).testBit t=true->(fG p.succ G K (upd L i (fG p.succ G K L i)) j).testBit t=true:=λj t hj q=>by
  rw[pG]at q⊢;rcases q with⟨⟨x,hx,e⟩,q⟩|q
  . exact .inl ⟨⟨x,hx,up x t (h.j5 hj hx).1 e⟩,q⟩
  . exact .inr q
 refine⟨⟨λj hj=>?_,λj t hj q=>?_,λj t hj q=>?_⟩,λne=>?_⟩
 . by_cases e:j=i
   . exact eW e<|eW d8<|lt
   . exact eW (gi e)<|s.lt j hj
 . by_cases e:j=i
   . subst e
     rw[d8,pG]at q;rcases q with⟨⟨x,hx,e⟩,q⟩|q
     . exact .back hj hx (s.sound x t (h.j5 hj hx).1 e) q
     . exact .ask hj q
   . rw[gi e]at q;exact s.sound j t hj q
 . by_cases e:j=i
   . subst e;rw[d8]at q;exact mono j t hj q
   . rw[gi e]at q;exact mono j t hj (s.grow j t hj q)
 . have e:=oG (f:=λi=>2^64-L i) (g:=λj=>2^64-upd L i (fG p.succ G K L i) j) (i:=i) (λj hj=>by exact eW (gi hj) rfl) p.n hi
   rw[d8]at e;exact AJ e (iX (s.lt i hi) (gL (OE (s.grow i · hi)) (d5 ne)))
omit hG in
theorem AL(i:Nat):(p.succ i).length<=1000:=ak (ak (aP _ _) (aJ (as:=p.succ i)▸qB h i)) (av rfl)
abbrev Br(p:Prog)(L:Nat->Nat):List FV:=(ae p.n).map λi=>nI (L i)
def SF(p:Prog)(f:FV)(L:Nat->Nat)(ch:Bool)(x y z:Slot):List Slot:=[.val p.fv,.own (.ob (.list (Br p L))),.val (nI 0),.val f,.val (.bool ch),x,y,z]
omit hG in
theorem GU{f:FV}{L1:Nat->Nat}{ch:Bool}{s:Slot}(hi:i<p.n)(hs:Y s)
 (kk:∀z,Y z->ex (au N (k+13)) N (.for [7] (.call (.bc (.obj 508)) (.cons (.var 0) (.cons (.var 5) .nil))) (.cons (.assign 6 (.bin .BitOr (.var 6) (.idx (.var 1) (.var 7)))) .nil)) (SF p f L1 ch (.val (nI i)) (.val (nI 0)) s,wl)=some (.next,SF p f L1 ch (.val (nI i)) (.val (nI (ry L1 (p.succ i)))) z,wl)->P):P:=
 tS (C:=au N (k+13)) (N:=N) (wl:=wl) (fr:=SF p f L1 ch (.val (nI i)) (.val (nI 0)) s) (λ(a:Nat) y=>SF p f L1 ch (.val (nI i)) (.val (nI a)) y) (λ_=>wl) (λn a=>a=ry L1 ((p.succ i).take n)) 0 (j:=7) (y0:=s) (it:=.call (.bc (.obj 508)) (.cons (.var 0) (.cons (.var 5) .nil))) (b:=.cons (.assign 6 (.bin .BitOr (.var 6) (.idx (.var 1) (.var 7)))) .nil) (l:=p.succ i) (g:=nI)
  (aG (ah rfl (ah rfl aE)) (te h (k:=k) hi)) (d9 (AL h i)) rfl hs rfl (λ_ _=>rfl) (λ_ _ _=>rfl) (λn j a hj ha=>
    have D3:=(h.j5 hi (aF hj)).1
    .next (a|||L1 j) (.val (nI j)) (ao (aZ (dh rfl (de (x:=.bor (.ob (.list (Br p L1)))) rfl rfl (nJ (eD D3) (az D3 (ll h.i2 rfl)))) (Ae a (L1 j))) rfl) aY) (.va _) (by exact eW ha<|eW ua<|eW hj<|eW (rf ..)<|eW Bg rfl))
  λa z hz ha e=>kk z hz ((congrArg (ry L1) n8).symm.trans ha.symm▸e)
structure SIn(p:Prog)(G K L:Nat->Nat)(n:Nat)(a:(Nat->Nat)×Bool×Slot×Slot):Prop where
 g1:Mj p G K a.1
 g2:rC p a.1+a.2.1.toNat<=rC p L
 g3:a.2.1=false->∀m i,m<n->(ae p.n).reverse[m]?=some i->fG p.succ G K a.1 i=a.1 i
 g4:Y a.2.2.1
 g5:Y a.2.2.2
theorem C1{f:FV}{n:Nat}{a:(Nat->Nat)×Bool×Slot×Slot}(hf:∀i m,i<p.n->m<2^64->au N (k+13) f [.fv (nI i),.fv (nI m)] wl=some (nI (n4 m (K i)|||G i),wl))(pN:(ae p.n).reverse[n]?=some i):
 SIn p G K L n a->Turn (hU (au N (k+13)) N (bR (cP (bodyOf jS))) (SF p f a.1 a.2.1 (.val (nI i)) a.2.2.1 a.2.2.2,wl)) (λ(a:(Nat->Nat)×Bool×Slot×Slot) y=>SF p f a.1 a.2.1 y a.2.2.1 a.2.2.2) (λ_=>wl) (SIn p G K L (n+1)):=
 NY a λL1 MP s6 s7 g=>
  have hi:i<p.n:=aC.mp (n9.mp (aF pN))
  GU h (f:=f) (k:=k) (wl:=wl) (ch:=MP) hi g.g5 λz hz eo=>by
   have i6:i<1000000:=az hi (ll h.i2 rfl)
   have aaY:ry L1 (p.succ i)<2^64:=Dm _ λj hj=>g.g1.lt j (h.j5 hi hj).1
   have t:eK (au N (k+13)) (.cmp .NotEq (.var 6) (.idx (.var 1) (.var 5))) (SF p f L1 MP (.val (nI i)) (.val (nI (fG p.succ G K L1 i))) z) wl=some (!decide (fG p.succ G K L1 i=L1 i),wl):=
    Mh (x:=fG p.succ G K L1 i) (y:=L1 i) (by rw[cT,beq_iff_eq,decide_eq_true_iff];exact jf) rfl (de (x:=.bor (.ob (.list (Br p L1)))) rfl rfl (nJ (eD hi) i6))
   have pre:∀{z':Option (Fl×St)},hU (au N (k+13)) N (lZ 3 (bR (cP (bodyOf jS)))) (SF p f L1 MP (.val (nI i)) (.val (nI (fG p.succ G K L1 i))) z,wl)=z'->hU (au N (k+13)) N (bR (cP (bodyOf jS))) (SF p f L1 MP (.val (nI i)) s6 s7,wl)=z':=λe=>
    ao (aZ rfl (jB rfl g.g4))<|ao eo<|ao (aZ (EY (d:=f) rfl (ah rfl (ah rfl aE)) (hf i _ hi aaY)) rfl) e
   by_cases q:fG p.succ G K L1 i=L1 i
   . rw[decide_eq_true q]at t
     exact .next (L1,MP,.val (nI (fG p.succ G K L1 i)),z) (.val (nI i)) (pre (ao (kU t) aY)) (.va _) ⟨g.g1,g.g2,λhc m j hm hj=>(bE.mp hm).elim (λr=>g.g3 hc m j r hj) λr=>ag ((r▸pN).symm.trans hj)▸q,.va _,hz⟩
   . rw[decide_eq_false q]at t
     refine xA (g.g1.put h hG hi) λp1 p2=>.next (upd L1 i (fG p.succ G K L1 i),true,.val (nI (fG p.succ G K L1 i)),z) (.val (nI i)) (pre (ao (cz t (ao (EE (k:=(i:Int)) (d:=nI (fG p.succ G K L1 i)) (xs:=Br p L1) rfl rfl rfl ⟨bJ _,by refine eW (aj ..)<|eW aq ?_;exact hi,by lia⟩) (ao (aZ rfl rfl) aY))) ?_)) (.va _)
      ⟨p1,ak (p2 q) (ak (aP _ _) g.g2),λhc=>ff hc.symm,.va _,hz⟩
     have e1:(Br p L1).set i (nI (fG p.succ G K L1 i))=Br p (upd L1 i (fG p.succ G K L1 i)):=zl (F:=nI)
     show _=some (Fl.next,SF p f (upd L1 i (fG p.succ G K L1 i)) true _ _ _,wl);delta SF;exact eL e1 rfl
def SI(p:Prog)(G K:Nat->Nat)(a:(Nat->Nat)×Bool×Slot×Slot×Slot):Prop:=Mj p G K a.1/\(a.2.1=false->∀i,i<p.n->fG p.succ G K a.1 i=a.1 i)/\Y a.2.2.1/\Y a.2.2.2.1/\Y a.2.2.2.2
theorem AX{f:FV}{a:(Nat->Nat)×Bool×Slot×Slot×Slot}(hf:∀i m,i<p.n->m<2^64->au N (k+13) f [.fv (nI i),.fv (nI m)] wl=some (nI (n4 m (K i)|||G i),wl)):SI p G K a->a.2.1=true->
 yZ (hU (au N (k+13)) N (cP (bodyOf jS)) (SF p f a.1 a.2.1 a.2.2.1 a.2.2.2.1 a.2.2.2.2,wl)) (λa=>SF p f a.1 a.2.1 a.2.2.1 a.2.2.2.1 a.2.2.2.2) (λ_=>wl) λa'=>SI p G K a'/\2*rC p a'.1+a'.2.1.toNat<2*rC p a.1+a.2.1.toNat:=
 Uv a λL ch s5 s6 s7 hI hT=>kI hI λhS _ h5 h6 h7=>by
  clear hI;change ch=true at hT;subst hT
  have rg:ev (au N (k+13)) (.bj .range false (.cons (.bin .Sub (.ef (.user 20) (.var 0) .nil) (.lit (.int 1))) (.cons (.un .USub (.lit (.int 1))) (.cons (.un .USub (.lit (.int 1))) .nil)))) (SF p f L false s5 s6 s7) wl=some (.fv (.range ((p.n:Int)-1) (-1) (-1)),wl):=
   cK (ah (dh (fm (c:=490) rfl aE rfl rfl (nR h (k:=k+12))) rfl rfl) (ah rfl (ah rfl aE))) rfl
  exact tS (C:=au N (k+13)) (N:=N) (wl:=wl) (fr:=SF p f L false s5 s6 s7) (λ(a:(Nat->Nat)×Bool×Slot×Slot) y=>SF p f a.1 a.2.1 y a.2.2.1 a.2.2.2) (λ_=>wl) (SIn p G K L) (L,false,s6,s7) (j:=5) (y0:=s5) (b:=bR (cP (bodyOf jS))) (l:=(ae p.n).reverse) (g:=nI)
   rg (DK p.n (aC.mpr (aQ h.i2 (by decide)))) rfl h5 ⟨hS,aT _,λ_ m i hm=>absurd hm (dy _),h6,h7⟩ (λ_ _=>rfl) (λ_ _ _=>rfl) (λn i a hi g=>C1 h hG hf hi g)
   λa y hy=>NY a λL2 ch2 Zr s7' g el=>.mk .next (L2,ch2,y,Zr,s7') (ao (aZ rfl rfl)<|ao el aY) fw ⟨⟨g.g1,λhc i hi=>g.g3 hc (p.n-1-i) i (by exact eW iN<|eW aq<|JO hi) (by
    rw[List.getElem?_reverse (by rw[aq];exact JO hi),aq,NK hi,II hi]),hy,g.g4,g.g5⟩,
    dZ (ak (ct (ER _ (uy 1)) _) (ak (bh (Y8 2 _ _).symm) (iY 2 g.g2)))⟩
theorem tX{f:FV}(hN:2^80<=N)(hf:∀i m,i<p.n->m<2^64->au N (k+13) f [.fv (nI i),.fv (nI m)] wl=some (nI (n4 m (K i)|||G i),wl)):
 ∃L:Nat->Nat,(∀i,i<p.n->L i<2^64/\∀t,(L i).testBit t=true↔kX p.n p.succ (bits G) (bits K) i t)/\
  au N (k+14) (.obj 604) [.fv p.fv,.own (.ob (.list ((ae p.n).map λ_=>nI 0))),.fv (nI 0),.fv f] wl=some (.list ((ae p.n).map λi=>nI (L i)),wl):=by
 have l0:rC p (λ_=>0)<=30*2^64:=ak (rq (c:=2^64) (λ_=>pf _ _) p.n) (ij _ h.i2)
 have z:∀t,(0:Nat).testBit t=true->False:=λt q=>ff ((iD t).symm.trans q);refine si (C:=au N (k+13)) (N:=N) (wl:=wl) (fr:=SF p f (λ_=>0) true .unset .unset .unset) (λa=>SF p f a.1 a.2.1 a.2.2.1 a.2.2.2.1 a.2.2.2.2) (λ_=>wl) (SI p G K) (λa=>2*rC p a.1+a.2.1.toNat) (λ_=>0,true,.unset,.unset,.unset) (t:=.var 4) (b:=cP (bodyOf jS)) rfl rfl
  ⟨⟨λ_ _=>xv (by decide),λi t _ q=>(z t q).elim,λi t _ q=>(z t q).elim⟩,λq=>ff q.symm,.un,.un,.un⟩ (by show 2*rC p (λ_=>0)+1<N;lia) (λa=>a.2.1) (λa _=>jG rfl rfl) (λa=>AX h hG hf) λa=>Uv a λL ch s5 s6 s7 hI hT e=>?_
 change ch=false at hT;subst hT;exact jN hI λhS(WR:_->∀i,i<p.n->fG p.succ G K L i=L i) _=>⟨L,λi hi=>⟨hS.lt i hi,λt=>⟨hS.sound i t hi,λq=>q.least (F:=λi t=>i<p.n->(L i).testBit t=true) (λi t hi ha hi=>by exact eL (WR rfl i hi)<|iW pG<|.inr ha) (λi j t hi hj q hl hi=>by exact eL (WR rfl i hi)<|iW pG<|.inl ⟨⟨j,hj,q (h.j5 hi hj).1⟩,hl⟩) hi⟩⟩,
  cM (k:=k+13) rfl<|bt rfl rfl<|ao (aZ rfl rfl)<|ao e<|ao rfl<|br (bZ rfl)⟩
end
noncomputable def mO:IB->IB
 |.cons (.kS _ _ _ b) _=>b
 |.cons _ r=>mO r
 |.nil=>.nil
noncomputable abbrev P2(p:Prog):Nat->List Nat:=λi=>(p.r i).asks
noncomputable abbrev layR(p:Prog):Nat->List Nat:=λi=>(p.r i).gv
abbrev P1(p:Prog):Nat->List Nat:=λi=>(p.r i).rs.map dG
abbrev OI(p:Prog):Nat->List Nat:=λi=>whole ((p.r i).ws.map dG)
theorem Cf(f:Nat->List Nat):bits (λi=>bG (f i))=ins f:=funext λi=>funext λt=>propext (by show(bG (f i)).testBit t=true↔_;rw[gy,decide_eq_true_iff])
abbrev tL(a b:Nat):FV:=.tup [nI a,nI b]
theorem Cm{m:Nat}{n:Nat}{f:Nat->FV}(hi:i<n)(hn:n<=100)(hs:fr[s]?=some (.ro (.list ((ae n).map f))))(hf:f i=tL a b)(h0:fr[0]?=some (.val (nI i)))(h1:fr[1]?=some (.val (nI m))):
 ev C (.bin .BitOr (.bin .BitAnd (.var 1) (.un .Invert (.idx (.idx (.var s) (.var 0)) (.lit (.int 1))))) (.idx (.idx (.var s) (.var 0)) (.lit (.int 0)))) fr wl=some (.fv (nI (n4 m b|||a)),wl):=by
 have vs:ev C (.var s) fr wl=some (.fv (.list ((ae n).map f)),wl):=by exact eW fi<|eW hs rfl
 have v0:ev C (.var 0) fr wl=some (.fv (nI i),wl):=by exact eW fi<|eW h0 rfl
 have v1:ev C (.var 1) fr wl=some (.fv (nI m),wl):=by exact eW fi<|eW h1 rfl
 have x:ev C (.idx (.var s) (.var 0)) fr wl=some (.fv (tL a b),wl):=de vs v0 (by exact eL hf<|fx (eD hi) (by lia));refine dh (x:=.fv (nI (n4 m b))) (y:=.fv (nI a)) (dh v1 (Ye (r:=.fv (.int (xj (b:Int)))) (de x rfl rfl) rfl) ?_) (de x rfl rfl) (Ae _ _);exact congrArg (λz=>some (EV.fv (.int z))) (Ih m b)
theorem T4(ha:a<2^64):n4 a 0|||(2^64-1)=2^64-1:=cx λt=>by
 refine eW (ig ..)<|eW (yy ..)<|eW (lV ..) ?_;by_cases q:t<64
 . exact eW (decide_eq_true q)<|eW (Bool.or_true ..) rfl
 . rw[jY (az ha (kV (by decide) (by lia))),decide_eq_false q];rfl
section
variable (h:p.Ok N)
include h
theorem Ay:ev C (.comp true 1 [] (.attr (.var 0) 0) [0] .nil (.emit (.lit (.int 0)))) (.val p.fv::fr) wl=some (.own (.ob (.list ((ae p.n).map λ_=>nI 0))),wl):=
 comp_map (own:=true) p.o (ae p.n) (aX:=[]) (cs:=[]) (x:=.fv (fH p)) rfl (kj (by refine eW (aj ..)<|eW aq ?_;have:=h.i2;lia)) rfl (λ_=>nI 0) (λ_ _=>rfl) (by refine eW aq ?_;have:=h.i2;lia)
theorem Bf(hg:∀i,i<p.n->au N (k+14) (.obj a) [.fv (p.o i)] wl=some (g i,wl)):ev (au N (k+14)) (.comp false 1 [] (.attr (.var 0) 0) [0] .nil (.emit (.call (.bc (.obj a)) (.cons (.var 0) .nil)))) (.val p.fv::fr) wl=some (.fv (.list ((ae p.n).map g)),wl):=
 comp_map (own:=false) p.o (ae p.n) (aX:=[]) (cs:=[]) (x:=.fv (fH p)) rfl (kj (by refine eW (aj ..)<|eW aq ?_;have:=h.i2;lia)) rfl g (λi hi=>aG (ah rfl aE) (hg i (aC.mp hi))) (by refine eW aq ?_;have:=h.i2;lia)
theorem yS(hN:2^80<=N):∃L:Nat->Nat,(∀i,i<p.n->L i<2^64/\∀t,(L i).testBit t=true↔kX p.n p.succ (ins (P2 p)) (ins (layR p)) i t)/\au N (k+15) (.obj 609) [.fv p.fv] wl=some (.list ((ae p.n).map λi=>nI (L i)),wl):=by
 have i2:=h.i2
 (refine bS (tX (k:=k) (wl:=wl) (N:=N) (f:=.mB 0 [.list ((ae p.n).map λi=>tL (bG (p.r i).asks) (bG (p.r i).gv))]) h (G:=λi=>bG (p.r i).asks) (K:=λi=>bG (p.r i).gv) (λi hi=>Fz λx hx=>dk ((h.Qs i hi).asks.2 x hx) (by decide)) hN (λi m hi hm=>RD (k:=k+12) rfl<|bt rfl rfl<|br<|bZ<|Cm hi (by lia) rfl rfl rfl rfl)) λL hL e=>?_)
 rw[Cf (P2 p),Cf (layR p)]at hL;exact⟨L,hL,cM (k:=k+14) rfl<|bt rfl rfl<|ao (aZ (Bf h (g:=λi=>tL (bG (p.r i).asks) (bG (p.r i).gv)) λi hi=>(h.ord i hi).VC (k+4) wl) rfl)<|ao rfl<|ao rfl<|br<|bZ<|aG (ah rfl (ah (Ay h) (ah rfl (ah rfl aE)))) e⟩
def DC(p:Prog)(n b:Nat):Prop:=∃i,i<n/\(p.r i).fM=true/\b=p.B (p.P i)
omit h in
theorem yx{n:Nat}:DC p (n+1) b↔DC p n b\/(p.r n).fM=true/\b=p.B (p.P n):=
 ⟨λq=>dT q λi h1 h2 h3=>(bE.mp h1).elim (λr=>.inl ⟨i,r,h2,h3⟩) λr=>.inr (r▸⟨h2,h3⟩),λq=>q.elim (λq=>dT q λi h1 h2 h3=>⟨i,dm h1,h2,h3⟩) λq=>⟨n,bg n,q⟩⟩
def LkI(p:Prog)(n:Nat)(a:List Nat×Slot):Prop:=a.1.length<=n/\(∀b,b∈a.1↔DC p n b)/\Y a.2
def Ru(p:Prog)(a:List Nat×Slot)(y z:Slot):List Slot:=[.val p.fv,.own (.ob (.list (a.1.map nI))),y,z,a.2]
theorem KD(hN:10<=N)(hi:i<p.n){a:List Nat×Slot}:LkI p i a->Mg (hU (au N (k+13)) N (mO (bodyOf iJ)) (Ru p a (.val (nI i)) (.val (p.o i)),wl)) (Ru p) (λ_=>wl) (LkI p (i+1)):=
 J6 a λF s4 g=>jN g λf1 f2 h4=>by
  have i2:=h.i2;clear g;change F.length<=i at f1
  have st:ex (au N (k+13)) N (o6 0 (mO (bodyOf iJ))) (Ru p (F,s4) (.val (nI i)) (.val (p.o i)),wl)=some (.next,Ru p (F,.val (nI (p.B (p.P i)))) (.val (nI i)) (.val (p.o i)),wl):=
   aZ (fm (c:=490) rfl (ah rfl aE) rfl rfl (lE h (k:=k+12) hi hN)) (jB rfl h4)
  have t:eK (au N (k+13)) (.ic (.cons (.call (.bc (.obj 637)) (.cons (.var 3) .nil)) (.cons (.cmp .NotIn (.var 4) (.var 1)) .nil))) (Ru p (F,.val (nI (p.B (p.P i)))) (.val (nI i)) (.val (p.o i))) wl=some ((p.r i).fM&& !decide (p.B (p.P i)∈F),wl):=qL (jG rfl (aG (ah rfl aE) ((h.ord i hi).fM (k+3) wl))) (fJ rfl rfl (by
   show(j6 (p.B (p.P i):Int) (F.map nI)).map (!·)=_;exact eW (nz ..) rfl))
  induction q:((p.r i).fM&& !decide (p.B (p.P i)∈F))using ax with
  |true=>
   refine .mk .next (F++[p.B (p.P i)],.val (nI (p.B (p.P i)))) (.val (nI i)) (.val (p.o i)) (ao st<|ao (cz (q▸t) (ao (i8 (xs:=F.map nI) (d:=nI (p.B (p.P i))) rfl rfl (decide_eq_true (by refine eW (aj ..) ?_;lia))) aY)) (by delta Ru;exact eW bf rfl)) (.va _) (.va _) fw ⟨ak (bh aJ) (cB f1),λb=>?_,.va _⟩
   exact iW yx<|iW cq<|iW aI<|iL (f2 ..)<|or_congr Iff.rfl ⟨λe=>⟨(qy.mp q).1,e⟩,λe=>e.2⟩
  |false=>
   refine .mk .next (F,.val (nI (p.B (p.P i)))) (.val (nI i)) (.val (p.o i)) (ao st<|ao (kU (q▸t)) aY) (.va _) (.va _) fw ⟨jZ f1,λb=>?_,.va _⟩
   refine iW yx<|iL (f2 ..) ?_;refine⟨.inl,λe=>e.elim id λe=>?_⟩;rw[e.1,gQ,Bool.not_eq_false',decide_eq_true_iff]at q;exact e.2▸q
theorem Ab(hN:10<=N):∃F:List Nat,F.length<=30/\(∀b,b∈F↔∃i,i<p.n/\(p.r i).fM=true/\b=p.B (p.P i))/\au N (k+14) (.obj 644) [.fv p.fv] wl=some (nL F,wl):=
 QZ (C:=au N (k+13)) (N:=N) (wl:=wl) (fr:=Ru p ([],.unset) .unset .unset) (Ru p) (λ_=>wl) (LkI p) ([],.unset) (i0:=2) (j:=3) (y0:=.unset) (z0:=.unset) (it:=.attr (.var 0) 0) (b:=mO (bodyOf iJ)) (n:=p.n) (f:=p.o)
  rfl (ll h.i2 rfl) rfl .un .un ⟨aU _,λb=>⟨λq=>absurd q a8,λq=>bS q λi q _=>absurd q (dy _)⟩,.un⟩ (λ_ _ _=>rfl) (λ_ _ _ _=>rfl) (λ_ _ _=>rfl) (λ_ _ _ _=>rfl) (λi a hi g=>KD h hN hi g)
  λa y z=>J6 a λF s4 g e=>jN g λf1 f2 _=>⟨F,ak f1 h.i2,f2,cM (k:=k+13) rfl<|bt rfl rfl<|ao (gD (t:=.ob (.list [])) rfl rfl)<|ao e<|ao rfl<|br (bZ rfl)⟩
def Prog.opened(p:Prog)(i:Nat):Prop:=∃j,j<p.n/\(p.r j).fM=true/\p.P j=p.P i
structure SAB(N:Nat)(p:Prog)(sa sb:Nat->Nat)(i:Nat):Prop where
 ev:∀k wl,au N (k+10) (.obj 630) [.fv (p.o i)] wl=some (tL (sa i) (sb i),wl)
 lt:sa i<2^64
 a:(p.r i).fM=false->sa i=bG (P1 p i)
 b:(p.r i).fM=false->sb i=bG (OI p i)
theorem Ox:∃sa sb:Nat->Nat,∀i,i<p.n->SAB N p sa sb i:=
 xE (Classical.skolem.mp (show∀i,∃z:Nat×Nat,i<p.n->SAB N p (λ_=>z.1) (λ_=>z.2) i fromλi=>(Nat.lt_or_ge i p.n).elim (λhi=>cO (h.ord i hi).slots λa b q1 q2 q3=>⟨(a,b),λ_=>⟨q1,q2,λe=>(q3 e).1,λe=>(q3 e).2⟩⟩) λhi=>⟨(0,0),λc=>absurd c (cG.mpr hi)⟩)) λf hf=>
  ⟨λi=>(f i).1,λi=>(f i).2,λi hi=>(hf i hi).casesOn (motive:=λ_=>_) λa b c d=>⟨a,b,c,d⟩⟩
noncomputable def GL(p:Prog)(F:List Nat)(sa:Nat->Nat)(i:Nat):Nat:=if p.B (p.P i)∈F then 2^64-1 else sa i
noncomputable def KL(p:Prog)(F:List Nat)(sb:Nat->Nat)(i:Nat):Nat:=if p.B (p.P i)∈F then 0 else sb i
noncomputable def Ym(p:Prog)(F:List Nat):FV:=.list ((ae p.n).map λi=>FV.bool (decide (p.B (p.P i)∈F)))
def RX(p:Prog)(sa sb:Nat->Nat):FV:=.list ((ae p.n).map λi=>tL (sa i) (sb i))
theorem ZK{F:List Nat}{sa sb:Nat->Nat}{m:Nat}(hi:i<p.n)(hm:m<2^64):au N (k+13) (.mB 1 [Ym p F,RX p sa sb]) [.fv (nI i),.fv (nI m)] wl=some (nI (n4 m (KL p F sb i)|||GL p F sa i),wl):=by
 have hn:p.n<=100:=ak h.i2 (by decide)
 have v2:ev (au N (k+12)) (.idx (.var 2) (.var 0)) [.val (nI i),.val (nI m),.ro (Ym p F),.ro (RX p sa sb)] wl=some (.fv (.bool (decide (p.B (p.P i)∈F))),wl):=de (x:=.fv (Ym p F)) rfl rfl (fx (eD hi) (az hi (ak hn (by decide))));delta KL GL;refine RD (k:=k+12) rfl<|bt rfl rfl<|br<|bZ ?_;by_cases q:p.B (p.P i)∈F
 . rw[decide_eq_true q]at v2
   exact eW (if_pos q)<|eW (if_pos q)<|eW (T4 hm)<|qW (jG rfl v2) rfl
 . rw[decide_eq_false q]at v2
   exact eW (if_neg q)<|eW (if_neg q)<|pA (jG rfl v2) (Cm (n:=p.n) (f:=λi=>tL (sa i) (sb i)) hi hn rfl rfl rfl rfl)
theorem N8(hi:i<p.n)(hj:j∈p.succ i)(q:¬p.opened i):¬p.opened j:=λc=>q (dT (c:∃x,x<p.n/\(p.r x).fM=true/\p.P x=p.P j) λx a b d=>⟨x,a,b,d.trans (h.j5 hi hj).2⟩)
theorem Bs{a b c d:Nat->Nat->Prop}(cl:∀j,j<p.n->¬p.opened j->∀t,(a j t->c j t)/\(d j t->b j t))(q:kX p.n p.succ a b i t):¬p.opened i->kX p.n p.succ c d i t:=
 q.least (F:=λi t=>¬p.opened i->kX p.n p.succ c d i t) (λi t hi ha q=>.ask hi ((cl i hi q t).1 ha)) λi j t hi hj ih hl q=>.back hi hj (ih (N8 h hi hj q)) λc=>hl ((cl i hi q t).2 c)
omit h in
theorem Bq:(bG l).testBit t=true↔t∈l:=by rw[gy,decide_eq_true_iff]
theorem Cb(hN:2^80<=N):∃L:Nat->Nat,(∀i,i<p.n->(p.opened i->L i=2^64-1)/\(¬p.opened i->L i<2^64/\∀t,(L i).testBit t=true↔kX p.n p.succ (ins (P1 p)) (ins (OI p)) i t))/\au N (k+15) (.obj 649) [.fv p.fv] wl=some (.list ((ae p.n).map λi=>nI (L i)),wl):=by
 have hn:p.n<=100000:=ak h.i2 (by decide)
 have hN':10<=N:=ak (by decide) hN;refine u_ (Ox h) λsa sb hs=>dT (Ab h (k:=k) (wl:=wl) (ak (by decide) hN)) λF hFl hF eF=>?_
 have op:∀i,i<p.n->(p.B (p.P i)∈F↔p.opened i):=λi hi=>(hF _).trans ⟨λq=>dT q λj a b c=>⟨j,a,b,(h.OS (h.part i hi).1 (h.part j a).1 c).symm⟩,λq=>dT q λj a b c=>⟨j,a,b,congrArg p.B c.symm⟩⟩;refine bS (tX (k:=k) (wl:=wl) (N:=N) (f:=.mB 1 [Ym p F,RX p sa sb]) h (G:=GL p F sa) (K:=KL p F sb) (λi hi=>by
  delta GL;split
  . decide
  . exact(hs i hi).lt) hN λi m hi hm=>ZK h hi hm) λL hL e=>?_
 have cl:∀j,j<p.n->¬p.opened j->∀t,(bits (GL p F sa) j t↔ins (P1 p) j t)/\(bits (KL p F sb) j t↔ins (OI p) j t):=λj hj q t=>by
  have c:p.B (p.P j)∉F:=λc=>q ((op j hj).mp c)
  have r:(p.r j).fM=false:=dX.mpr λr=>q ⟨j,hj,r,rfl⟩;delta bits GL KL;exact eW (if_neg c)<|eW (if_neg c)<|eW ((hs j hj).a r)<|eW ((hs j hj).b r)<|⟨Bq,Bq⟩
 refine⟨L,λi hi=>⟨λho=>?_,λho=>⟨(hL i hi).1,λt=>((hL i hi).2 t).trans ⟨λq=>Bs h (λj hj q t=>⟨(cl j hj q t).1.mp,(cl j hj q t).2.mpr⟩) q ho,λq=>Bs h (λj hj q t=>⟨(cl j hj q t).1.mpr,(cl j hj q t).2.mp⟩) q ho⟩⟩⟩,
  cM (k:=k+14) rfl<|bt rfl rfl<|ao (aZ (Bf h (g:=λi=>tL (sa i) (sb i)) λi hi=>(hs i hi).ev (k+4) wl) rfl)<|ao (aZ (aG (ah rfl aE) eF) rfl)<|ao (aZ (comp_map (own:=false) nI (ae p.n) (aX:=[2,0]) (cs:=[.ro (nL F),.ro p.fv]) (oM h (k:=k+13) (s:=0) rfl) (cN hn) rfl (λi=>FV.bool (decide (p.B (p.P i)∈F))) (λi hi=>y7 (fm (c:=490) rfl (ah rfl aE) rfl rfl (lE h (k:=k+13) (aC.mp hi) hN')) rfl (nz _ F)) (ak (bh aq) (ak hn (by decide)))) rfl)<|ao rfl<|ao rfl<|br<|bZ<|aG (ah rfl (ah (Ay h) (ah rfl (ah rfl aE)))) e⟩
 refine cx λt=>?_;refine eW (lV ..) ?_;by_cases q:t<64
 . refine eW (decide_eq_true q) ?_
   refine((hL i hi).2 t).mpr (.ask hi ?_);delta bits GL;exact eW (if_pos ((op i hi).mpr ho))<|eW (lV ..)<|eW (decide_eq_true q) rfl
 . rw[jY (az (hL i hi).1 (kV (by decide) (bu q))),decide_eq_false q]
def sW(p:Prog)(L:Nat->Nat)(i:Nat):Bool:=(p.r i).xX&&bG (p.r i).gv&&&ry L (p.succ i)==0
def n5(p:Prog)(L:Nat->Nat)(i:Nat):List Nat:=(ae i).filter (sW p L)
omit h in
theorem HZ:n5 p L (i+1)=n5 p L i++if sW p L i=true then[i]else[]:=by
 delta n5;exact eW dJ<|eW (sg ..)<|eW List.filter_cons<|eW List.filter_nil rfl
omit h in
theorem LF:(n5 p L i).length<=i:=ak (dF _ _) (bh aq)
def I3(p:Prog)(L:Nat->Nat)(F:List Nat)(y z u v:Slot):List Slot:=[.val p.fv,.val (.list (Br p L)),.own (.ob (.list (F.map nI))),y,z,u,v]
theorem Py{F:List Nat}{s:Slot}(hi:i<p.n)(hs:Y s)
 (kk:∀z,Y z->ex (au N (k+15)) N (.for [6] (.call (.bc (.obj 508)) (.cons (.var 0) (.cons (.var 3) .nil))) (.cons (.assign 5 (.bin .BitOr (.var 5) (.idx (.var 1) (.var 6)))) .nil)) (I3 p L F (.val (nI i)) (.val (p.o i)) (.val (nI 0)) s,wl)=some (.next,I3 p L F (.val (nI i)) (.val (p.o i)) (.val (nI (ry L (p.succ i)))) z,wl)->P):P:=
 tS (C:=au N (k+15)) (N:=N) (wl:=wl) (fr:=I3 p L F (.val (nI i)) (.val (p.o i)) (.val (nI 0)) s) (λ(a:Nat) y=>I3 p L F (.val (nI i)) (.val (p.o i)) (.val (nI a)) y) (λ_=>wl) (λn a=>a=ry L ((p.succ i).take n)) 0 (j:=6) (y0:=s) (it:=.call (.bc (.obj 508)) (.cons (.var 0) (.cons (.var 3) .nil))) (b:=.cons (.assign 5 (.bin .BitOr (.var 5) (.idx (.var 1) (.var 6)))) .nil) (l:=p.succ i) (g:=nI)
  (aG (ah rfl (ah rfl aE)) (te h (k:=k+2) hi)) (d9 (AL h i)) rfl hs rfl (λ_ _=>rfl) (λ_ _ _=>rfl) (λn j a hj ha=>
    have D3:=(h.j5 hi (aF hj)).1
    .next (a|||L j) (.val (nI j)) (ao (aZ (dh rfl (de (x:=.fv (.list (Br p L))) rfl rfl (fx (eD D3) (RR D3 h.i2 rfl))) (Ae a (L j))) rfl) aY) (.va _) (by exact eW ha<|eW ua<|eW hj<|eW (rf ..)<|eW Bg rfl))
  λa z hz ha e=>kk z hz ((congrArg (ry L) n8).symm.trans ha.symm▸e)
def DI(n:Nat)(a:Nat×Slot×Slot):Prop:=a.1=n/\Y a.2.1/\Y a.2.2
theorem LD(hi:i<p.n){a:Nat×Slot×Slot}:DI i a->Mg (hU (au N (k+15)) N (mO (bodyOf lB)) (I3 p L (n5 p L a.1) (.val (nI i)) (.val (p.o i)) a.2.1 a.2.2,wl)) (λ(a:Nat×Slot×Slot) y z=>I3 p L (n5 p L a.1) y z a.2.1 a.2.2) (λ_=>wl) (DI (i+1)):=
 So a λi' s5 s6 g=>jN g λ(f1:i'=i) h5 h6=>by
  clear g;subst f1
  have fl:=LF (p:=p) (L:=L) (i:=i')
  have ds:=HZ (p:=p) (L:=L) (i:=i');refine bS (h.ord i' hi).cls λs hs ms=>?_
  have t:eK (au N (k+15)) (.cmp .NotIn (.call (.bc (.obj 151)) (.cons (.var 4) .nil)) (.tup (.cons (.lit (.str (aa "alu"))) (.cons (.lit (.str (aa "alu64"))) .nil)))) (I3 p L (n5 p L i') (.val (nI i')) (.val (p.o i')) s5 s6) wl=some (!(p.r i').xX,wl):=fJ (aG (ah rfl aE) (hs (k+5) wl)) rfl (by
   show(rB s [.str (aa "alu"),.str (aa "alu64")]).map (!·)=_;exact eW ms rfl)
  induction al:(p.r i').xX using ax with
  |false=>
   rw[al]at t
   have d0:sW p L i'=false:=(congrArg (·&&_) al).trans (hZ _);rw[d0,if_neg ay,cC]at ds;exact .mk .cont (i'+1,s5,s6) (.val (nI i')) (.val (p.o i')) (Uq (cz t (ds▸rfl))) (.va _) (.va _) Ol ⟨rfl,h5,h6⟩
  |true=>
   rw[al]at t;refine Py h (k:=k) (wl:=wl) (L:=L) (F:=n5 p L i') hi h6 λz hz eo=>?_
   have d1:sW p L i'=(bG (p.r i').gv&&&ry L (p.succ i')==0):=(congrArg (·&&_) al).trans (gQ _)
   have t2:eK (au N (k+15)) (.cmp .Eq (.bin .BitAnd (.idx (.call (.bc (.obj 597)) (.cons (.var 4) .nil)) (.lit (.int 1))) (.var 5)) (.lit (.int 0))) (I3 p L (n5 p L i') (.val (nI i')) (.val (p.o i')) (.val (nI (ry L (p.succ i')))) z) wl=some (sW p L i',wl):=
    d1▸gJ (x:=(bG (p.r i').gv&&&ry L (p.succ i'):Nat)) (y:=0) (by rw[cT,beq_iff_eq,beq_iff_eq];lia) (dh (x:=.fv (nI (bG (p.r i').gv))) (de (aG (ah rfl aE) ((h.ord i' hi).VC (k+5) wl)) rfl rfl) rfl (congrArg (λz=>some (EV.fv (.int z))) (wV _ _))) rfl
   have i2:=h.i2;induction q:sW p L i' using ax with
   |true=>
    rw[q,if_pos rfl]at ds;refine .mk .next (i'+1,.val (nI (ry L (p.succ i'))),z) (.val (nI i')) (.val (p.o i')) (ao (kU t)<|ao (aZ rfl (jB rfl h5))<|ao eo<|ao (cz (q▸t2) (ao (i8 (xs:=(n5 p L i').map nI) (d:=nI i') rfl rfl (decide_eq_true (by refine eW (aj ..) ?_;lia))) aY)) ?_) (.va _) (.va _) fw ⟨rfl,.va _,hz⟩
    show _=some (Fl.next,I3 p L (n5 p L (i'+1)) _ _ _ _,wl);refine eW ds ?_;delta I3;exact eW bf rfl
   |false=>
    rw[q,if_neg ay,cC]at ds;exact .mk .next (i'+1,.val (nI (ry L (p.succ i'))),z) (.val (nI i')) (.val (p.o i')) (ao (kU t)<|ao (aZ rfl (jB rfl h5))<|ao eo<|ao (kU (q▸t2)) (ds▸rfl)) (.va _) (.va _) fw ⟨rfl,.va _,hz⟩
theorem Ic(hN:2^80<=N):∃L:Nat->Nat,(∀i,i<p.n->L i<2^64/\∀t,(L i).testBit t=true↔kX p.n p.succ (ins (P2 p)) (ins (layR p)) i t)/\au N (k+16) (.obj 656) [.fv p.fv] wl=some (nL ((ae p.n).filter λi=>(p.r i).xX&&bG (p.r i).gv&&&ry L (p.succ i)==0),wl):=
 bS (yS h (k:=k) (wl:=wl) hN) λL hL eL=>
 QZ (C:=au N (k+15)) (N:=N) (wl:=wl) (fr:=I3 p L [] .unset .unset .unset .unset) (λ(a:Nat×Slot×Slot) y z=>I3 p L (n5 p L a.1) y z a.2.1 a.2.2) (λ_=>wl) DI (0,.unset,.unset) (i0:=3) (j:=4) (y0:=.unset) (z0:=.unset) (it:=.attr (.var 0) 0) (b:=mO (bodyOf lB)) (n:=p.n) (f:=p.o)
  rfl (ll h.i2 rfl) rfl .un .un ⟨rfl,.un,.un⟩ (λ_ _ _=>rfl) (λ_ _ _ _=>rfl) (λ_ _ _=>rfl) (λ_ _ _ _=>rfl) (λi a hi g=>LD h hi g) λa y z=>So a λi' s5 s6 g e=>by
  have f1:i'=p.n:=g.1;subst f1;exact⟨L,hL,cM (k:=k+15) rfl<|bt rfl rfl<|ao (gm (xs:=[.fv (.list ((ae p.n).map λi=>nI (L i))),.own (.ob (.list []))]) (ah (aG (ah rfl aE) eL) (ah rfl aE)) rfl)<|ao e<|ao rfl<|br (bZ rfl)⟩
end
def aD(R:Nat->List Row):Nat->Nat:=sumTo λj=>(R j).length
noncomputable def gH(B:Nat->Nat):Nat->Nat->Nat
 |0,_=>0
 |m+1,i=>if B m<=i then m else gH B m i
theorem pK{B:Nat->Nat}(h0:B 0=0):∀m i,i<B m->gH B m i<m/\B (gH B m i)<=i/\i<B (gH B m i+1)
 |0,i,h=>by rw[h0]at h;exact absurd h (dy _)
 |m+1,i,h=>by
  show(if B m<=i then m else gH B m i)<_/\B (if B m<=i then m else gH B m i)<=i/\i<B ((if B m<=i then m else gH B m i)+1);by_cases q:B m<=i
  . exact eW (if_pos q)<|⟨bg _,q,h⟩
  . refine eW (if_neg q) ?_
    (refine jN (pK h0 m i (by lia)) λa b c=>?_)
    exact⟨dm a,b,c⟩
noncomputable def nS(R:List Row):Nat:=R.findIdx λr=>r.w==4
theorem tZ:∀(R:List Row),R.countP (λr=>r.w==4)<=1->∀a r,R[a]?=some r->r.w=4->a=nS R
 |[],_,a,r,h,_=>by simp at h
 |x::R,hc,a,r,h,hw=>by
  delta nS;refine eW List.findIdx_cons ?_;rw[M5]at hc;induction q:(x.w==4)using ax with
  |true=>
   rw[q,if_pos rfl]at hc;induction a using IH with
   |zero=>rfl
   |succ a=>
    have:0<R.countP (λr=>r.w==4):=ri.mpr ⟨r,aF h,by exact eW hw rfl⟩;lia
  |false=>
   rw[q]at hc;induction a using IH with
   |zero=>rw[ag h,hw]at q;exact absurd q (by decide)
   |succ a=>
    have:=tZ R (by simpa using hc) a r h hw
    show a+1=nS R+1;exact eL this rfl
def hJ(R:List Row)(a:Nat):Nat:=if(rowAt R a).w=4 then R.length else(rowAt R a).jW%R.length
def progOf(m:Nat)(R:Nat->List Row):Prog where
 n:=aD R m
 m:=m
 B:=aD R
 P:=gH (aD R) m
 r:=λi=>rowAt (R (gH (aD R) m i)) (i-aD R (gH (aD R) m i))
 T:=λi=>aD R (gH (aD R) m i)+hJ (R (gH (aD R) m i)) (i-aD R (gH (aD R) m i))
 o:=λi=>(rowAt (R (gH (aD R) m i)) (i-aD R (gH (aD R) m i))).md ((hJ (R (gH (aD R) m i)) (i-aD R (gH (aD R) m i)):Int)-((i-aD R (gH (aD R) m i):Nat):Int)-1)
 C:=λj=>aD R j+nS (R j)
section
variable {m:Nat}{R:Nat->List Row}{lo:Nat->Bool}(hm:1<=m/\m<=3)(hR:∀j,j<m->mv N (R j) (lo j) (decide (j+1<m)))
include hm hR
theorem len_pos(hj:j<m):0<(R j).length:=by
 obtain⟨L,e,-⟩:=(hR j hj).last;refine eW e<|eW aJ ?_;simp
theorem t7:∀{i j:Nat},i<j->j<=m->aD R i<aD R j:=λ{i j} D4 hj=>by
 induction j with
 |zero=>exact absurd D4 (dy _)
 |succ j ih=>
  have h1:=len_pos hm hR (j:=j) hj
  have h2:aD R (j+1)=aD R j+(R j).length:=rfl;rcases bE.mp D4 with q|q
  . exact az (ih q (bW hj)) (aP _ _)
  . exact eW q<|eN h1
theorem mT(D4:i<=j)(hj:j<=m):aD R i<=aD R j:=by
 rcases jx D4 with q|q
 . exact bW (t7 hm hR q hj)
 . exact eW q<|aT _
theorem Fn(hj:j<m)(h1:aD R j<=i)(h2:i<aD R j+(R j).length):gH (aD R) m i=j:=by
 have e2:aD R (j+1)=aD R j+(R j).length:=rfl
 have:=mT hm hR (show j+1<=m from hj) (aT _)
 (refine jN (pK (B:=aD R) rfl m i (az h2 this)) λa b c=>?_)
 rcases g8 (gH (aD R) m i) j with q|q|q
 . exact absurd (az c (ak (mT hm hR (show gH (aD R) m i+1<=j from q) (bW hj)) h1)) (b9 _)
 . exact q
 . exact absurd (az h2 (ak (mT hm hR (show j+1<=gH (aD R) m i from q) (bW a)) b)) (b9 _)
theorem du(hj:j<m)(ha:a<(R j).length):(progOf m R).P (aD R j+a)=j/\(progOf m R).r (aD R j+a)=rowAt (R j) a/\(progOf m R).T (aD R j+a)=aD R j+hJ (R j) a/\(progOf m R).o (aD R j+a)=(rowAt (R j) a).md ((hJ (R j) a:Int)-a-1)/\aD R j+a<(progOf m R).n:=by
 have e:=Fn hm hR hj (i:=aD R j+a) (aP _ _) (eR ha _)
 have e2:aD R (j+1)=aD R j+(R j).length:=rfl
 have:=mT hm hR (show j+1<=m from hj) (aT _);refine⟨e,?_,?_,?_,az (eR ha _) this⟩
 . show rowAt (R (gH (aD R) m _)) _=_
   exact eW e<|eW (cW ..) rfl
 . show aD R (gH (aD R) m _)+_=_
   exact eW e<|eW (cW ..) rfl
 . show(rowAt (R (gH (aD R) m _)) _).md _=_
   exact eW e<|eW (cW ..) rfl
theorem eU(hi:i<(progOf m R).n):∃j a,j<m/\a<(R j).length/\i=aD R j+a:=by
 (refine jN (pK (B:=aD R) rfl m i hi) λa b c=>?_)
 have e2:aD R (gH (aD R) m i+1)=aD R (gH (aD R) m i)+(R (gH (aD R) m i)).length:=rfl;exact⟨gH (aD R) m i,i-aD R (gH (aD R) m i),a,mV b c,(cH b).symm⟩
theorem nt(hj:j<m)(ha:a<(R j).length):(rowAt (R j) a).Ok N:=(hR j hj).ok _ (pI ha)
theorem A7(hj:j<m)(ha:a<(R j).length):(rowAt (R j) a).w=3↔a+1=(R j).length:=by
 (refine bS ((hR j hj).last) λL e hL=>?_)
 have h1:=iz ha;rw[e]at h1 ha⊢;rw[aJ]at ha⊢;rw[GC]at h1;simp only[u6,List.length_nil]at ha⊢;split at h1
 . rename_i q
   have:=hL _ (aF h1);constructor
   . exactλc=>absurd c this
   . exactλc=>absurd q (cG.mpr (bh (kM c).symm))
 . rename_i q
   have h2:rowAt (L++[oR]) a∈[oR]:=aF h1;rw[aI]at h2;refine eW h2 ?_;constructor
   . exactλ_=>Rr ha (cB (bu q))
   . exactλ_=>rfl
theorem A8(hj:j<m)(ha:a<(R j).length)(hw:(rowAt (R j) a).w=4):j+1<m/\a=nS (R j):=by
 have hc:=(hR j hj).calls
 have pos:0<(R j).countP (λr=>r.w==4):=ri.mpr ⟨_,pI ha,by exact eW hw rfl⟩;by_cases q:j+1<m
 . rw[decide_eq_true q,if_pos rfl]at hc
   exact⟨q,tZ _ (by lia) a _ (iz ha) hw⟩
 . rw[decide_eq_false q,if_neg ay]at hc;lia
theorem rt:(progOf m R).Ok N:=by
 have hB:∀j,aD R (j+1)=aD R j+(R j).length:=λ_=>rfl;refine⟨?_,hm,rfl,rfl,λj hj=>t7 hm hR (bg j) hj,λi hi=>pK rfl m i hi,?_,?_,?_,?_,?_,?_,?_⟩
 . have:∀j,j<=m->aD R j<=10*j:=λj=>by
    induction j with
    |zero=>exactλ_=>aT _
    |succ j ih=>
     intro hj
     have:=ih (by lia)
     have:=(hR j (by lia)).len;refine eW (hB ..) ?_;lia
   have:=this m (aT _)
   show aD R m<=30;lia
 . intro i hi
   (refine cO (eU hm hR hi) λj a hj ha q1=>?_;subst q1)
   obtain⟨-,q2,q3,q4,-⟩:=du hm hR hj ha;rw[q2,q3,q4,show((aD R j+hJ (R j) a:Nat):Int)-((aD R j+a:Nat):Int)-1=(hJ (R j) a:Int)-a-1 by lia];exact(nt hm hR hj ha).ord _
 . intro i hi
   (refine cO (eU hm hR hi) λj a hj ha q2=>?_;subst q2)
   exact eW ((du hm hR hj ha).2.1)<|nt hm hR hj ha
 . intro i hi hw
   (refine cO (eU hm hR hi) λj a hj ha q3=>?_;subst q3)
   obtain⟨q1,q2,q3,-,-⟩:=du hm hR hj ha;rw[q2]at hw
   have hg:hJ (R j) a<(R j).length:=by
    delta hJ;rw[if_neg (by lia)];exact pg _ (by lia)
   obtain⟨r1,-,-,-,r5⟩:=du hm hR hj hg;exact eW q3<|eW q1<|⟨r5,r1⟩
 . intro i hi hw
   (refine cO (eU hm hR hi) λj a hj ha q4=>?_;subst q4)
   obtain⟨q1,q2,q3,-,-⟩:=du hm hR hj ha;rw[q2]at hw
   (refine xA (A8 hm hR hj ha hw) λc1 c2=>?_)
   refine eW q1<|eW q3 ?_;refine⟨c1,?_,?_⟩
   . show _=aD R (j+1)
     rw[hB,hJ,if_pos hw]
   . show _=aD R j+nS (R j)
     exact eL c2 rfl
 . intro j hj
   have HP:j<m:=g9 hj
   have hc:=(hR j HP).calls;rw[decide_eq_true (show j+1<m from hj),if_pos rfl]at hc
   have pos:0<(R j).countP (λr=>r.w==4):=by lia
   (refine bS (ri.mp pos) λr hr hw=>?_)
   obtain⟨a,ha,e⟩:=GA.mp hr
   have hw:(rowAt (R j) a).w=4:=by
    have:rowAt (R j) a=r:=ag ((iz ha).symm.trans (by exact eW (aV ha)<|eW e rfl));exact eW this<|beq_iff_eq.mp hw
   have c2:=(A8 hm hR HP ha hw).2;obtain⟨-,q2,-,-,-⟩:=du hm hR HP ha
   show aD R j<=aD R j+nS (R j)/\aD R j+nS (R j)<aD R (j+1)/\((progOf m R).r (aD R j+nS (R j))).w=4;exact eL c2<|eW q2<|eW (hB ..)<|⟨aP _ _,by lia,hw⟩
 . intro i hi
   (refine cO (eU hm hR hi) λj a hj ha q5=>?_;subst q5)
   obtain⟨q1,q2,-,-,-⟩:=du hm hR hj ha;refine eW q1<|eW q2 ?_
   show _↔_=aD R (j+1);refine eW (hB ..)<|iW (A7 hm hR hj ha) ?_;lia
 . intro i hi hw
   (refine cO (eU hm hR (g9 hi)) λj a hj ha q6=>?_;subst q6)
   rw[(du hm hR hj ha).2.1]at hw
   (refine iP ((hR j hj).reach a _ (iz ha) hw) λb r' e w1 am hb=>?_)
   have BP:b<(R j).length:=by lia
   have er:rowAt (R j) b=r':=ag ((iz BP).symm.trans e);obtain⟨-,q2,q3,-,-⟩:=du hm hR hj BP;refine⟨aD R j+b,by lia,by refine eW q2<|eW er ?_;exact w1,?_⟩;rw[q3,hJ,er,if_neg (by lia),am];rfl
theorem nk{x:Nat}(hj:j<m)(ha:a<(R j).length):x∈(progOf m R).succ (aD R j+a)↔∃b∈l7 (rowAt (R j) a).w a ((rowAt (R j) a).jW%(R j).length),x=aD R j+b:=by
 obtain⟨-,q2,q3,-,-⟩:=du hm hR hj ha
 have w4:=(nt hm hR hj ha).w;delta Prog.succ l7;refine eW q2<|eW q3 ?_
 have hg:(rowAt (R j) a).w≠4->hJ (R j) a=(rowAt (R j) a).jW%(R j).length:=λc=>by delta hJ;exact eW (if_neg c) rfl
 by_cases h3:(rowAt (R j) a).w=3
 . refine eW (if_pos h3)<|eW (if_pos h3) ?_;simp
 . refine eW (if_neg h3)<|eW (if_neg h3) ?_
   by_cases h2:(rowAt (R j) a).w=2
   . rw[if_pos h2,if_pos h2,hg (by lia)];simp
   . refine eW (if_neg h2)<|eW (if_neg h2) ?_
     by_cases h1:(rowAt (R j) a).w=1
     . rw[if_pos h1,hg (by lia)]
       split
       . simp[fc]
       . rename_i q
         have:aD R j+(rowAt (R j) a).jW%(R j).length=aD R j+a+1:=fg λc=>q ⟨h1,c⟩;simp only[aI,a6,a8,or_false,exists_eq_or_imp,exists_eq_left];lia
     . rw[if_neg h1,if_neg (λc=>h1 c.1)];simp[fc]
theorem vV{f g:Row->List Nat}(hj:j<m)(ha:a<(R j).length):
 kX (progOf m R).n (progOf m R).succ (ins λi=>f ((progOf m R).r i)) (ins λi=>g ((progOf m R).r i)) (aD R j+a) t↔kX (R j).length (λa=>l7 (rowAt (R j) a).w a ((rowAt (R j) a).jW%(R j).length)) (ins λa=>f (rowAt (R j) a)) (ins λa=>g (rowAt (R j) a)) a t:=by
 constructor
 . intro q
   refine q.least (F:=λi t=>∀b,b<(R j).length->i=aD R j+b->kX (R j).length _ _ _ b t) (λi t hi hq b hb e=>.ask hb ?_) (λi x t hi hx ih hl b hb e=>?_) a ha rfl
   . subst e
     show t∈f (rowAt (R j) b);exact eL ((du hm hR hj hb).2.1)<|hq
   . subst e
     (refine bS ((nk hm hR hj hb).mp hx) λc hc q7=>?_;subst q7)
     have qY:c<(R j).length:=by
      have:=(rt hm hR).j5 hi hx
      have e1:=(du hm hR hj hb).1;rw[e1]at this
      (refine cO (eU hm hR this.1) λj' c' HP QQ e2=>?_)
      have e3:=(du hm hR HP QQ).1;rw[<-e2,this.2]at e3;subst e3;lia
     refine .back hb hc (ih c qY rfl) λc=>hl ?_
     show t∈g ((progOf m R).r (aD R j+b));exact eW ((du hm hR hj hb).2.1)<|c
 . intro q
   refine(q.least (F:=λa t=>a<(R j).length/\kX _ _ _ _ (aD R j+a) t) (λa t ha hq=>⟨ha,.ask (du hm hR hj ha).2.2.2.2 ?_⟩) (λa b t ha hb ih hl=>⟨ha,.back (du hm hR hj ha).2.2.2.2 ((nk hm hR hj ha).mpr ⟨b,hb,rfl⟩) ih.2 λc=>hl ?_⟩)).2
   . show t∈f ((progOf m R).r (aD R j+a))
     exact eW ((du hm hR hj ha).2.1)<|hq
   . show t∈g (rowAt (R j) a)
     exact eL ((du hm hR hj ha).2.1)<|c
end
theorem Pj{D:Type}(G:D->List Slot)(W:D->WL)(I:Nat->D->Prop)(a0:D){b:IB}(h:ev C it fr wl=some (x,W a0))(hi:items x=some vs)(h0:fr=G a0)(i0:I 0 a0)
 (step:∀i v a,vs[i]?=some v->I i a->∃f_,c6 (G a) is v=some f_/\∃fl a',hU C N b (f_,W a)=some (fl,G a',W a')/\(∀d,fl≠.ret d)/\I (i+1) a'):
 ∃a,I vs.length a/\ex C N (.for is it b) (fr,wl)=some (.next,G a,W a):=by
 (refine I_ (FU (F:=λ(a:St) v=>(c6 a.1 is v).bind λfr=>hU C N b (fr,a.2)) (λi s=>∃a,I i a/\s=(G a,W a)) vs 0 (fr,W a0) ⟨a0,i0,by exact eW h0 rfl⟩ (λi v s hv ⟨a,hI,hs⟩=>by
   rw[dY]at hI⊢;refine cps λGz kz=>?_;obtain⟨f_,hb,fl,a',e,hf,QU⟩:=step i v a hv hI;refine kz ?_;refine⟨fl,_,?_,hf,a',QU,rfl⟩;refine eW hs ?_
   show(c6 (G a) is v).bind _=_;exact eW hb<|e)) λs e a hI hs=>?_)
 rw[dY]at hI;exact⟨a,hI,Gu h hi (by exact eW e<|eW hs rfl)⟩
def sA(R:List Row)(a:Nat):List Nat:=l7 (rowAt R a).w a ((rowAt R a).jW%R.length)
abbrev xn(f g:Row->List Nat)(R:List Row):Nat->Nat->Prop:=kX R.length (sA R) (ins λa=>f (rowAt R a)) (ins λa=>g (rowAt R a))
open Classical in
def jF(f g:Row->List Nat)(R:List Row)(a:Nat):Nat:=bG ((ae 64).filter λt=>decide (xn f g R a t))
open Classical in
theorem mL{f g:Row->List Nat}{R:List Row}:(jF f g R a).testBit t=true↔t<64/\xn f g R a t:=by
 delta jF;rw[gy,decide_eq_true_iff,eO,aC,decide_eq_true_iff]
theorem Bt{f g:Row->List Nat}{R:List Row}{F:List Nat}(h1:∀t∈F,t<64)(h2:∀t,t∈F↔xn f g R a t):bG F=jF f g R a:=(vM λt=>by exact iW mL<|iL (h2 ..)<|⟨λc=>c.2,λc=>⟨h1 t c,c⟩⟩).symm
noncomputable abbrev aR:Row->List Nat:=λr=>r.asks
noncomputable abbrev lR:Row->List Nat:=λr=>r.gv
abbrev aS:Row->List Nat:=λr=>r.rs.map dG
abbrev lS:Row->List Nat:=λr=>whole (r.ws.map dG)
def B6(R:List Row)(a:Nat):Bool:=(rowAt R a).xX&&bG (rowAt R a).gv&&&ry (jF aR lR R) (sA R a)==0
section
variable (m:Nat)(R:Nat->List Row)(lo:Nat->Bool)
def RG(i:Nat):Nat:=jF aR lR (R (gH (aD R) m i)) (i-aD R (gH (aD R) m i))
def SG(i:Nat):Nat:=if lo (gH (aD R) m i)then 2^64-1 else jF aS lS (R (gH (aD R) m i)) (i-aD R (gH (aD R) m i))
def DG(i:Nat):Bool:=B6 (R (gH (aD R) m i)) (i-aD R (gH (aD R) m i))
end
section
variable {m:Nat}{R:Nat->List Row}{lo:Nat->Bool}(hm:1<=m/\m<=3)(hR:∀j,j<m->mv N (R j) (lo j) (decide (j+1<m)))
include hm hR
theorem t8(hj:j<m)(ha:a<(R j).length):RG m R (aD R j+a)=jF aR lR (R j) a/\SG m R lo (aD R j+a)=(if lo j then 2^64-1 else jF aS lS (R j) a)/\DG m R (aD R j+a)=B6 (R j) a:=by
 have e:=Fn hm hR hj (i:=aD R j+a) (aP _ _) (eR ha _);delta RG SG DG;exact eW e<|eW (cW ..)<|⟨rfl,rfl,rfl⟩
theorem zx(hj:j<m)(ha:a<(R j).length)(hb:b∈sA (R j) a):b<(R j).length:=by
 have hl:(rowAt (R j) a).jW%(R j).length<(R j).length:=pg _ (aQ (aU _) ha);delta sA l7 at hb;split at hb
 . exact absurd hb a8
 . rename_i h3
   have:a+1≠(R j).length:=λc=>h3 ((A7 hm hR hj ha).mpr c);split at hb
   . rw[aI]at hb;exact hb▸hl
   . split at hb
     . rcases a6.mp hb with q|q
       . exact q▸gL ha this
       . rw[aI]at q;exact q▸hl
     . rw[aI]at hb;exact hb▸gL ha this
theorem Of:(sA (R j) a).length<=2:=by
 delta sA l7;split
 . simp
 . split
   . simp
   . split<;>simp
theorem P0(hj:j<m)(ha:a<(R j).length)(ht:xn aR lR (R j) a t):t<64:=
 ht.least (F:=λa t=>t<64) (λi t hi q=>dk ((nt hm hR hj hi).asks.2 t q) (by decide)) (λ_ _ _ _ _ q _=>q)
theorem zm(h:∀i,i<(progOf m R).n->L i<2^64/\∀t,(L i).testBit t=true↔kX (progOf m R).n (progOf m R).succ (ins (P2 (progOf m R))) (ins (layR (progOf m R))) i t)(hi:i<(progOf m R).n):L i=RG m R i:=by
 (refine cO (eU hm hR hi) λj a hj ha q3=>?_;subst q3)
 refine eW ((t8 hm hR hj ha).1) ?_;refine cx λt=>?_;exact iW cT<|iW ((h _ hi).2 ..)<|iW mL<|(vV hm hR (f:=aR) (g:=lR) hj ha).trans ⟨λc=>⟨P0 hm hR hj ha c,c⟩,λc=>c.2⟩
theorem AU(h:∀i,i<(progOf m R).n->((progOf m R).opened i->L i=2^64-1)/\(¬(progOf m R).opened i->L i<2^64/\∀t,(L i).testBit t=true↔kX (progOf m R).n (progOf m R).succ (ins (P1 (progOf m R))) (ins (OI (progOf m R))) i t))(hi:i<(progOf m R).n):L i=SG m R lo i:=by
 (refine cO (eU hm hR hi) λj a hj ha q4=>?_;subst q4)
 refine eW ((t8 hm hR hj ha).2.1) ?_
 have ho:(progOf m R).opened (aD R j+a)↔lo j=true:=by
  refine eL ((hR j hj).fM)<|iW iy ?_;constructor
  . rintro ⟨x,hx,lk,hp⟩
    (refine cO (eU hm hR hx) λj' b HP hb q5=>?_;subst q5)
    obtain⟨q1,q2,-⟩:=du hm hR HP hb;rw[q1,(du hm hR hj ha).1]at hp;subst hp;exact⟨_,pI hb,by exact eL q2<|lk⟩
  . rintro ⟨r,hr,lk⟩
    refine cps λGz kz=>?_;obtain⟨b,hb,e⟩:=GA.mp hr
    have er:rowAt (R j) b=r:=ag ((iz hb).symm.trans (by exact eW (aV hb)<|eW e rfl));obtain⟨q1,q2,-,-,q5⟩:=du hm hR hj hb;exact kz<|⟨_,q5,by exact eW q2<|eW er<|lk,by exact eW q1<|eW ((du hm hR hj ha).1) rfl⟩
 by_cases q:lo j=true
 . exact eW (if_pos q)<|(h _ hi).1 (ho.mpr q)
 . refine eW (if_neg q) ?_
   (refine xA ((h _ hi).2 λc=>q (ho.mp c)) λh1 h2=>?_)
   refine cx λt=>?_;refine iW cT<|iW (h2 ..)<|iW mL ?_;refine(vV hm hR (f:=aS) (g:=lS) hj ha).trans ⟨λc=>⟨?_,c⟩,λc=>c.2⟩;exact c.least (F:=λa t=>t<64) (λi t hi q=>by
    (refine bS (bO.mp q) λo ho q6=>?_;subst q6)
    exact zh ((nt hm hR hj hi).rs.2 o ho)) (λ_ _ _ _ _ q _=>q)
theorem PA(h:∀i,i<(progOf m R).n->L i=RG m R i)(hi:i<(progOf m R).n):(((progOf m R).r i).xX&&bG ((progOf m R).r i).gv&&&ry L ((progOf m R).succ i)==0)=DG m R i:=by
 (refine cO (eU hm hR hi) λj a hj ha q7=>?_;subst q7)
 refine eW ((t8 hm hR hj ha).2.2)<|eW ((du hm hR hj ha).2.1) ?_;delta B6
 have:ry L ((progOf m R).succ (aD R j+a))=ry (jF aR lR (R j)) (sA (R j) a):=cx λt=>by
  refine iW cT<|iW (l9 ..)<|iW (l9 ..) ?_;constructor
  . rintro ⟨x,hx,e⟩
    (refine bS ((nk hm hR hj ha).mp hx) λb hb q8=>?_;subst q8)
    have BP:=zx hm hR hj ha hb;rw[h _ (du hm hR hj BP).2.2.2.2,(t8 hm hR hj BP).1]at e;exact⟨b,hb,e⟩
  . rintro ⟨b,hb,e⟩
    have BP:=zx hm hR hj ha hb;refine⟨aD R j+b,(nk hm hR hj ha).mpr ⟨b,hb,rfl⟩,?_⟩;exact eW (h _ (du hm hR hj BP).2.2.2.2)<|eW ((t8 hm hR hj BP).1)<|e
 exact eW this rfl
end
abbrev rx(R:List Row)(lo:Bool):FV:=.tup [.list (dO R),.bool lo]
structure PtI(N m c:Nat)(i:Nat)(R:Nat->List Row)(lo:Nat->Bool)(a:List Slot×List FV×WL):Prop where
 e1:∃y0,Y y0/\a.1=[y0,.ro (nI m),.ro .well]
 e2:a.2.1=(ae i).map λj=>rx (R j) (lo j)
 ok:∀j,j<i->mv N (R j) (lo j) (decide (j+1<m))
 w:W (c+100*i) a.2.2
theorem Hi{m:Nat}(hj:j<m)(hm:m<=3)(hc:c<=600000){R:Nat->List Row}{lo:Nat->Bool}{a:List Slot×List FV×WL}:PtI N m c j R lo a->∃a',((c6 a.1 [0] (nI j)).bind λf_=>(fI (au N (k+5)) .nil f_ a.2.2).bind λt=>if t.1 then HW (au N (k+5)) (.emit (.call (.bc (.obj 720)) (.cons (.var 2) (.cons (.cmp .Lt (.var 0) (.bin .Sub (.var 1) (.lit (.int 1)))) .nil)))) f_ a.2.1 t.2 else some (f_,a.2.1,t.2))=some a'/\∃R lo,PtI N m c (j+1) R lo a':=
 So a λfr0 aaZ w0 g=>bS g.e1 λy0 h0 e1=>by
  have hW:=g.w
  have e2:=g.e2
  have hR:=g.ok;change fr0=_ at e1;change W _ w0 at hW;change aaZ=_ at e2;subst e1 e2;clear g;refine jM (Ia (N:=N) (k:=k) (hH:=decide (j+1<m)) hW (by lia)) λRj V8 w' ok UA ec=>?_
  have e5:ev (au N (k+5)) (.call (.bc (.obj 720)) (.cons (.var 2) (.cons (.cmp .Lt (.var 0) (.bin .Sub (.var 1) (.lit (.int 1)))) .nil))) [.val (nI j),.ro (nI m),.ro .well] w0=some (.fv (rx Rj V8),w'):=
   aG (ah rfl (ah (y7 (x:=.fv (nI j)) (y:=.fv (.int ((m:Int)-1))) rfl rfl (congrArg some (decide_eq_decide.mpr (show(j:Int)<(m:Int)-1↔j+1<m from⟨λh=>dn.mp (Int.add_lt_of_lt_sub_right h),λh=>Int.lt_sub_right_of_add_lt (dn.mpr h)⟩)))) aE)) ec
  have e6:((ae j).map λj=>rx (R j) (lo j))=(ae j).map λi=>rx (upd R j Rj i) (upd lo j V8 i):=dA λi hi=>by
   have n:=bx (aC.mp hi);exact eW (gi n)<|eW (gi n) rfl
  refine⟨([.val (nI j),.ro (nI m),.ro .well],((ae j).map λj=>rx (R j) (lo j))++[rx Rj V8],w'),bs (jB (fr:=[y0,.ro (nI m),.ro .well]) (i:=0) rfl h0) (bs yL ((if_pos rfl).trans (wB.trans (bs e5 rfl)))),upd R j Rj,upd lo j V8,⟨_,.va _,rfl⟩,?_,λi hi=>?_,UA.le (by lia)⟩
  . refine eW dJ<|eW bf<|eL e6 ?_
    show _=_++[rx (upd R j Rj j) (upd lo j V8 j)];exact eW d8<|eW d8 rfl
  . exact(bE.mp hi).elim (λq=>by exact eW (gi (bx q))<|eW (gi (bx q))<|hR i q) λq=>by exact eW q<|eW d8<|eW d8<|ok
theorem Eh{m:Nat}(hm:m<=3)(hW:W c wl)(hc:c<=600000)(h1:ev (au N (k+5)) (.bj .range false (.cons (.var 2) .nil)) fr wl=some (.fv (.range 0 m 1),wl))(h3:fX fr [2,1]=some [.ro (nI m),.ro .well]):
 ∃(R:Nat->List Row)(lo:Nat->Bool)(w':WL),(∀j,j<m->mv N (R j) (lo j) (decide (j+1<m)))/\W (c+100*m) w'/\
  ev (au N (k+5)) (.comp false 1 [2,1] (.bj .range false (.cons (.var 2) .nil)) [0] .nil (.emit (.call (.bc (.obj 720)) (.cons (.var 2) (.cons (.cmp .Lt (.var 0) (.bin .Sub (.var 1) (.lit (.int 1)))) .nil))))) fr wl=some (.fv (.list ((ae m).map λj=>rx (R j) (lo j))),w'):=
 bS (yw (F:=λ(a:List Slot×List FV×WL) v=>(c6 a.1 [0] v).bind λf_=>(fI (au N (k+5)) .nil f_ a.2.2).bind λt=>if t.1 then HW (au N (k+5)) (.emit (.call (.bc (.obj 720)) (.cons (.var 2) (.cons (.cmp .Lt (.var 0) (.bin .Sub (.var 1) (.lit (.int 1)))) .nil)))) f_ a.2.1 t.2 else some (f_,a.2.1,t.2))
  (λi a=>∃R lo,PtI N m c i R lo a) ((ae m).map nI) 0 (bD 1 .unset++[.ro (nI m),.ro .well],[],wl) ⟨λ_=>[],λ_=>false,⟨_,.un,rfl⟩,rfl,λj hj=>absurd hj (dy _),hW⟩ (λj v a hj g=>xA (JN hj) λhjm e=>by
    rw[dY]at g⊢;exact e▸u_ g λR lo g=>Hi (k:=k) hjm hm hc g)) λa ea g=>by
  rw[aj,aq,dY]at g;exact u_ g λR lo g=>⟨R,lo,a.2.2,g.ok,g.w,z3.trans (bs h1 (bs (cN (ll hm rfl)) (bs h3 (bs ea ((if_pos (decide_eq_true (by exact eW g.e2<|eW (aj ..)<|eW aq<|ll hm rfl))).trans (by exact eW g.e2 rfl))))))⟩
section
variable {m:Nat}{R:Nat->List Row}{lo:Nat->Bool}(hm:1<=m/\m<=3)(hR:∀j,j<m->mv N (R j) (lo j) (decide (j+1<m)))
abbrev eY(m:Nat)(R:Nat->List Row)(n:Nat):List FV:=(ae n).map (progOf m R).o
abbrev TB(cy parts:FV)(m:Nat)(R:Nat->List Row)(lo:Nat->Bool)(n b:Nat)(s8 s9 Sf Vv Uu JJ E_:Slot):List Slot:=
 [.val cy,.val .well,.val (nI m),.val parts,.own (.ob (.list (eY m R n))),.own (.ob (.list ((ae b).map λi=>nI (RG m R i)))),.own (.ob (.list ((ae b).map λi=>nI (SG m R lo i)))),.own (.ob (.list (((ae n).filter (DG m R)).map nI))),s8,s9,Sf,Vv,Uu,JJ,E_,.unset,.unset,.unset]
include hm hR
theorem ti(hj:j<m):aD R j+(R j).length<=30:=by
 have h1:=(rt hm hR).i2
 have h2:=mT hm hR (show j+1<=m from hj) (aT _)
 have h3:aD R (j+1)=aD R j+(R j).length:=rfl;exact ak h2 h1
end
theorem Bu{α:Type}(f g:Nat->α)(b n:Nat)(h:∀a,a<n->f (b+a)=g a):(ae b).map f++(ae n).map g=(ae (b+n)).map f:=by
 exact eW y4<|eW bf<|eW bH<|congrArg _ (dA λa ha=>(h a (aC.mp ha)).symm)
theorem HY{R:List Row}{x:Nat}(hx:x<64)(hF:∀b∈sA R a,(x∈F b↔xn aR lR R b x)):(bG [x]&&&ry (jF aR lR R) (sA R a)==0)=decide ((sA R a).filter (λb=>decide (x∈F b))=[]):=by
 rw[cT,beq_iff_eq,decide_eq_true_iff,jK];constructor
 . intro e b hb q
   have h1:(bG [x]&&&ry (jF aR lR R) (sA R a)).testBit x=true:=by
    exact eW (gP ..)<|eW (gy ..)<|eW (decide_eq_true (cU x))<|eW (gQ ..)<|iW (l9 ..)<|⟨b,hb,mL.mpr ⟨hx,(hF b hb).mp (of_decide_eq_true q)⟩⟩
   rw[e,iD]at h1;exact ay h1
 . intro e
   refine cx λt=>?_;refine eW (gP ..)<|eW (gy ..)<|eW (iD ..) ?_;by_cases q:t=x
   . subst q
     refine eW (decide_eq_true (cU t))<|eW (gQ ..) ?_;refine dX.mpr λc=>?_
     (refine bS ((l9 _).mp c) λb hb c=>?_)
     exact e b hb (decide_eq_true ((hF b hb).mpr (mL.mp c).2))
   . rw[decide_eq_false (by rw[aI];exact q),hZ]
theorem KX:jq (.bor (.ob (.list (xs++[d])))) (.fv (.int (-1))) wl=some (.fv d):=by
 refine KW.trans ((if_pos (by decide)).trans (ms ?_));unfold Fs;rw[if_neg (by decide),if_pos (by rw[aJ];simp;lia),show(-1+((xs++[d]).length:Int)).toNat=xs.length by refine eW aJ ?_;simp;lia,hX (aT _),XY];rfl
theorem BV(f:Nat->Bool)(n:Nat):(ae (n+1)).filter f=(ae n).filter f++if f n then[n]else[]:=by
 refine eW dJ<|eW (sg ..) ?_;induction q:f n using ax<;>simp[q]
section
variable {m:Nat}{R:Nat->List Row}{lo:Nat->Bool}(hm:1<=m/\m<=3)(hR:∀j,j<m->mv N (R j) (lo j) (decide (j+1<m)))
include hm hR
def Qk(cy parts:FV)(m:Nat)(R:Nat->List Row)(lo:Nat->Bool)(j:Nat)(F:Nat->List Nat)(CE:List FV)(dd:List Nat)(x y:Slot):List Slot:=
 [.val cy,.val .well,.val (nI m),.val parts,.own (.ob (.list CE)),.own (.ob (.list ((ae (aD R j)).map λi=>nI (RG m R i)))),.own (.ob (.list ((ae (aD R j)).map λi=>nI (SG m R lo i)))),.own (.ob (.list (dd.map nI))),
   .val (.list (dO (R j))),.val (.bool (lo j)),.val (nI (aD R j)),.val (fU (R j).length (sA (R j))),.val (fU (R j).length F),x,y,.unset,.unset,.unset]
def o7(m:Nat)(R:Nat->List Row)(n:Nat):List Nat:=(ae n).filter (DG m R)
theorem Sh(hj:j<m)(ha:a<(R j).length)(h8:ev C (.var s) fr wl=some (.fv (.list (dO (R j))),wl))(Xh:ev C (.var t) fr wl=some (.fv (nI a),wl)):ev C (.idx (.var s) (.var t)) fr wl=some (.fv (rowAt (R j) a).fv,wl):=
 de h8 Xh (fx (by refine eW fK<|eW (iz ha) ?_;rfl) (RR ha (hR j hj).len rfl))
theorem Pz{x:Nat}{CE:List FV}{dd:List Nat}{y:Slot}(hj:j<m)(ha:a<(R j).length)(hx:(rowAt (R j) a).gv=[x]):
 eK (au N (k+30)) (.cmp .Eq (.comp false 1 [13,12,8] (.idx (.var 11) (.var 13)) [0] (.cons (.cmp .In (.idx (.idx (.idx (.var 3) (.var 1)) (.lit (.int 3))) (.lit (.int 0))) (.idx (.var 2) (.var 0))) .nil) (.emit (.var 0))) (.lst false .nil)) (Qk cy parts m R lo j F CE dd (.val (nI a)) y) wl=some (decide ((sA (R j) a).filter (λb=>decide (x∈F b))=[]),wl):=
 have Ts:=(hR j hj).len
 have nl:=Of hm hR (j:=j) (a:=a)
 fJ (gA (own:=false) nI (sA (R j) a) (x:=.fv (nL (sA (R j) a))) (cs:=[.ro (nI a),.ro (fU (R j).length F),.ro (.list (dO (R j)))]) (de (x:=.fv (fU (R j).length (sA (R j)))) rfl rfl (fx (eD ha) (RR ha Ts rfl))) (d9 (ll nl rfl)) rfl (λb=>decide (x∈F b)) nI (λb hb=>
  have BP:=zx hm hR hj ha hb
  MJ (fJ (x:=.fv (nI x)) (de (x:=.fv (nL [x])) (de (x:=.fv (rowAt (R j) a).fv) (Sh hm hR (s:=3) (t:=1) hj ha rfl rfl) rfl (by exact eL hx rfl)) rfl rfl) (de (x:=.fv (fU (R j).length F)) rfl rfl (fx (eD BP) (RR BP Ts rfl))) (nz x (F b)))) (λ_ _ _=>rfl) (ll nl rfl)) rfl (by
  exact eW (if_neg ay)<|(Xt (js:=[]) rfl rfl rfl rfl (jV _) rfl).trans (congrArg some (decide_eq_decide.mpr List.map_eq_nil_iff)))
theorem LC{y:Slot}(hj:j<m)(ha:a<(R j).length)(hF:∀a,a<(R j).length->∀t,t∈F a↔xn aR lR (R j) a t):
 ex (au N (k+30)) N (o6 2 (bR (bR (bodyOf jm)))) (Qk cy parts m R lo j F (eY m R (aD R j+a+1)) (o7 m R (aD R j+a)) (.val (nI a)) y,wl)=some (.next,Qk cy parts m R lo j F (eY m R (aD R j+(a+1))) (o7 m R (aD R j+(a+1))) (.val (nI a)) y,wl):=by
 have UI:=ti hm hR hj
 have Qs:=nt hm hR hj ha
 have hD:=(t8 (lo:=lo) hm hR hj ha).2.2
 have fl:(o7 m R (aD R j+a)).length<=30:=ak (dF _ _) (by refine eW aq ?_;lia)
 have fs:eY m R (aD R j+a+1)=eY m R (aD R j+a)++[(rowAt (R j) a).md ((hJ (R j) a:Int)-a-1)]:=by
  rw[eY,dJ,bf,<-(du hm hR hj ha).2.2.2.1];rfl
 have UJ:o7 m R (aD R j+a+1)=_:=BV (DG m R) (aD R j+a);refine bS (Qs.ord ((hJ (R j) a:Int)-a-1)).code λc hc kR=>?_
 have t1:eK (au N (k+30)) (.cmp .In (.bin .BitAnd (.attr (.idx (.var 4) (.un .USub (.lit (.int 1)))) 5) (.lit (.int 7))) (.tup (.cons (.lit (.int 4)) (.cons (.lit (.int 7)) .nil)))) (Qk cy parts m R lo j F (eY m R (aD R j+a+1)) (o7 m R (aD R j+a)) (.val (nI a)) y) wl=some ((rowAt (R j) a).xX,wl):=
  fJ (x:=.fv (.int (dq c 7))) (y:=.fv (.tup [.int 4,.int 7])) (dh (Am (de (x:=.bor (.ob (.list (eY m R (aD R j+a+1))))) rfl rfl (by exact eW fs<|KX)) hc) rfl rfl) rfl kR
 induction al:(rowAt (R j) a).xX using ax with
 |false=>
  rw[al]at t1;rw[show DG m R (aD R j+a)=false by rw[hD,B6,al];rfl,if_neg ay,cC]at UJ;exact(kU (jH (d6 t1))).trans (by exact eL (fc ..)<|eW UJ rfl)
 |true=>
  rw[al]at t1;refine xE (Qs.xX al) λx hx=>?_
  have Tf:x<64:=dk (Qs.gv x (by exact eW hx<|cU x)) (by decide)
  have hD2:DG m R (aD R j+a)=decide ((sA (R j) a).filter (λb=>decide (x∈F b))=[]):=by rw[hD,B6,al,gQ,hx,HY (R:=R j) (a:=a) (x:=x) (F:=F) Tf λb hb=>hF b (zx hm hR hj ha hb) x]
  have t2:=Pz (k:=k) (wl:=wl) (lo:=lo) hm hR (cy:=cy) (parts:=parts) (F:=F) (CE:=eY m R (aD R j+a+1)) (dd:=o7 m R (aD R j+a)) (y:=y) hj ha hx;rw[<-hD2]at t2;induction q:DG m R (aD R j+a)using ax with
  |true=>
   rw[q]at t2;rw[q,if_pos rfl]at UJ;refine(cz (jH (dR t1 (dR t2 pC))) (ao (i8 (xs:=(o7 m R (aD R j+a)).map nI) (d:=nI (aD R j+a)) rfl (dh rfl rfl rfl) (decide_eq_true (by refine eW (aj ..) ?_;exact ll fl rfl))) aY)).trans ?_;refine eL (fc ..)<|eW UJ ?_;unfold Qk;exact eW bf rfl
  |false=>
   rw[q]at t2;rw[q,if_neg ay,cC]at UJ;exact(kU (jH (dR t1 (d6 t2)))).trans (by exact eL (fc ..)<|eW UJ rfl)
theorem HM{JJ E_:Slot}(hj:j<m)(Xh:Y JJ)(Xg:Y E_)(hF:∀a,a<(R j).length->∀t,t∈F a↔xn aR lR (R j) a t):
 ∃M' M9,Y M'/\Y M9/\ex (au N (k+30)) N (o6 2 (bR (bodyOf jm))) (TB cy parts m R lo (aD R j) (aD R j) (.val (.list (dO (R j)))) (.val (.bool (lo j))) (.val (nI (aD R j))) (.val (fU (R j).length (sA (R j)))) (.val (fU (R j).length F)) JJ E_,wl)=
  some (.next,TB cy parts m R lo (aD R j+(R j).length) (aD R j) (.val (.list (dO (R j)))) (.val (.bool (lo j))) (.val (nI (aD R j))) (.val (fU (R j).length (sA (R j)))) (.val (fU (R j).length F)) M' M9,wl):=by
 have UI:=ti hm hR hj
 have Ts:=(hR j hj).len
 have ln:ju .len false [.fv (.list (dO (R j)))]=some (.fv (nI (R j).length)):=by
  have:=nE (xs:=dO (R j)) (by exact eW (aj ..)<|ll Ts rfl)
  rwa[aj]at this
 exact xU (C:=au N (k+30)) (N:=N) (wl:=wl) (fr:=Qk cy parts m R lo j F (eY m R (aD R j)) (o7 m R (aD R j)) JJ E_) (λ(a:Nat×Slot) y=>Qk cy parts m R lo j F (eY m R (aD R j+a.1)) (o7 m R (aD R j+a.1)) y a.2) (λ_=>wl) (λn a=>a.1=n/\Y a.2) (0,E_) (j:=13) (y0:=JJ) (it:=.bj .range false (.cons (.bj .len false (.cons (.var 8) .nil)) .nil)) (b:=bR (bR (bodyOf jm)))
  (x:=.fv (.range 0 (R j).length 1)) (cK (ah (cK (ah rfl aE) ln) aE) rfl) (cN (ll Ts rfl)) rfl Xh ⟨rfl,Xg⟩ (λ_ _=>rfl) (λ_ _ _=>rfl) (λa d ha=>J6 d λa' E_ g=>xA g λ(e:a'=a) Xg=>by
    subst e
    have Qs:=nt hm hR hj ha
    have lnv:∀{fr:List Slot},ev (au N (k+30)) (.var 8) fr wl=some (.fv (.list (dO (R j))),wl)->ev (au N (k+30)) (.bj .len false (.cons (.var 8) .nil)) fr wl=some (.fv (nI (R j).length),wl):=λh8=>cK (ah h8 aE) ln
    have g14:ev (au N (k+30)) (.ite (.cmp .Eq (.idx (.idx (.var 8) (.var 13)) (.lit (.int 0))) (.lit (.str (aa "call")))) (.bj .len false (.cons (.var 8) .nil)) (.bin .Mod (.idx (.idx (.var 8) (.var 13)) (.lit (.int 6))) (.bj .len false (.cons (.var 8) .nil)))) (Qk cy parts m R lo j F (eY m R (aD R j+a')) (o7 m R (aD R j+a')) (.val (nI a')) E_) wl=some (.fv (nI (hJ (R j) a')),wl):=by
     have rv:=Sh hm hR (C:=au N (k+30)) (wl:=wl) (fr:=Qk cy parts m R lo j F (eY m R (aD R j+a')) (o7 m R (aD R j+a')) (.val (nI a')) E_) (s:=8) (t:=13) hj ha rfl rfl;refine Cy (mU (EZ Qs.w).2.2.2 (de rv rfl rfl) rfl) (λq=>?_) (λq=>?_)
     . rw[hJ,if_pos (of_decide_eq_true q)];exact lnv rfl
     . rw[hJ,if_neg (of_decide_eq_false q)];exact dh (de rv rfl rfl) (lnv rfl) (Dv (aQ (aU _) ha))
    refine .next (a'+1,.val (nI (hJ (R j) a'))) (.val (nI a')) (ao (aZ g14 (jB rfl Xg))<|ao (i8 (xs:=eY m R (aD R j+a')) (d:=(rowAt (R j) a').md ((hJ (R j) a':Int)-a'-1)) rfl (EY (d:=(rowAt (R j) a').f) (de (Sh hm hR (s:=8) (t:=13) hj ha rfl rfl) rfl rfl) (ah (x:=.fv (.int ((hJ (R j) a':Int)-a'-1))) (dh (dh rfl rfl rfl) rfl rfl) aE) (Qs.call (k+20) wl _)) (decide_eq_true (by refine eW (aj ..)<|eW aq ?_;lia)))<|ao (UZ ?_ (LC hm hR (lo:=lo) (k:=k) (wl:=wl) (cy:=cy) (parts:=parts) (y:=.val (nI (hJ (R j) a'))) hj ha hF)) aY) (.va _) ⟨rfl,.va _⟩
    have fs:eY m R (aD R j+a'+1)=eY m R (aD R j+a')++[(rowAt (R j) a').md ((hJ (R j) a':Int)-a'-1)]:=by
     rw[eY,dJ,bf,<-(du hm hR hj ha).2.2.2.1];rfl
    exact eW fs rfl) λd y hy=>J6 d λn Zs g e=>by
  have hn:n=(R j).length:=g.1;subst hn;exact⟨y,Zs,hy,g.2,e⟩
end
section
variable {m:Nat}{R:Nat->List Row}{lo:Nat->Bool}(hm:1<=m/\m<=3)(hR:∀j,j<m->mv N (R j) (lo j) (decide (j+1<m)))
include hm hR
theorem Hk{Sf Vv Uu JJ E_:Slot}(hN:20000<=N)(hj:j<m)(Ts:Y Sf)(h11:Y Vv)(h12:Y Uu)(Xh:Y JJ)(Xg:Y E_):
 ∃Yi Yh Yg M' M9,Y Yi/\Y Yh/\Y Yg/\Y M'/\Y M9/\hU (au N (k+30)) N (bR (bodyOf jm)) (TB cy parts m R lo (aD R j) (aD R j) (.val (.list (dO (R j)))) (.val (.bool (lo j))) Sf Vv Uu JJ E_,wl)=
  some (.next,TB cy parts m R lo (aD R (j+1)) (aD R (j+1)) (.val (.list (dO (R j)))) (.val (.bool (lo j))) Yi Yh Yg M' M9,wl):=by
 have UI:=ti hm hR hj
 have Ws:(R j).length<=30:=ak (jg _ _) UI
 have hl:=(hR j hj).len
 have tl:∀f:Nat->List Nat,((ae (R j).length).map λi=>nL (f i)).length=(R j).length:=λf=>by exact eW (aj ..)<|eW aq rfl
 refine cps λGz kz=>?_
 (refine bS (tW (N:=N) (k:=k+29) (wl:=wl) (n:=(R j).length) (nx:=sA (R j)) (A:=λa=>(rowAt (R j) a).asks) (Ly:=λa=>(rowAt (R j) a).gv) hl hN (λa ha=>by
   have:=(nt hm hR hj ha).asks;exact⟨this.1,λt ht=>dk (this.2 t ht) (by decide)⟩)) λF hF eF=>?_)
 (refine bS (En (N:=N) (k:=k+28) (wl:=wl) (R:=R j) (nx:=sA (R j)) (hR j hj).ok hl hN) λS hS eS=>?_)
 (refine cO (HM hm hR (k:=k) (wl:=wl) (cy:=cy) (parts:=parts) (F:=F) hj Xh Xg (λa ha t=>(hF a ha).2.2 t)) λM' M9 ZW ZV e13=>?_)
 have a1:∀(fr:List Slot),fr[8]?=some (.val (.list (dO (R j))))->fX fr [8]=some [.ro (.list (dO (R j)))]->ev (au N (k+30)) (.comp false 1 [8] (.bj .range false (.cons (.bj .len false (.cons (.var 8) .nil)) .nil)) [0] .nil (.emit (.call (.bc (.obj 727)) (.cons (.var 1) (.cons (.var 0) .nil))))) fr wl=some (.fv (fU (R j).length (sA (R j))),wl):=λfr h8 hs=>by
  have ln:ju .len false [.fv (.list (dO (R j)))]=some (.fv (nI (R j).length)):=by
   have:=nE (xs:=dO (R j)) (by exact eW (aj ..)<|ll Ws rfl)
   rwa[aj]at this
  exact comp_map (own:=false) nI (ae (R j).length) (cK (ah (cK (ah (by exact eW fi<|eW h8 rfl) aE) ln) aE) rfl) (cN (ll Ws rfl)) hs (λa=>nL (sA (R j) a)) (λa ha=>aG (ah rfl (ah rfl aE)) (Ep (k:=k+29) (iz (aC.mp ha)) (nt hm hR hj (aC.mp ha)).w hl)) (by refine eW aq ?_;lia)
 have a2:∀(fr:List Slot)(n:Nat)(g:Row->List Nat),fr[8]?=some (.val (.list (dO (R j))))->(∀r C,ev C (.idx (.var 0) (.lit (nI n))) [.val (Row.fv r)] wl=some (.fv (nL (g r)),wl))->ev (au N (k+30)) (.comp false 1 [] (.var 8) [0] .nil (.emit (.idx (.var 0) (.lit (nI n))))) fr wl=some (.fv (fU (R j).length λa=>g (rowAt (R j) a)),wl):=λfr n g h8 hg=>by
  have:=comp_map (own:=false) (C:=au N (k+30)) (wl:=wl) (fr:=fr) Row.fv (R j) (aX:=[]) (cs:=[]) (it:=.var 8) (e:=.idx (.var 0) (.lit (nI n))) (by exact eW fi<|eW h8 rfl) (qD (ll Ws rfl)) rfl (λr=>nL (g r)) (λr _=>hg r _) (by lia)
  rwa[if_neg ay,vO]at this
 have a4:∀(fr:List Slot),fr[12]?=some (.val (fU (R j).length F))->ev (au N (k+30)) (.comp false 1 [] (.var 12) [0] .nil (.emit (.call (.bc (.obj 742)) (.cons (.var 0) .nil)))) fr wl=some (.fv (.list ((ae (R j).length).map λa=>nI (jF aR lR (R j) a))),wl):=λfr h12=>by
  have:=comp_map (own:=false) (C:=au N (k+30)) (wl:=wl) (fr:=fr) (λa=>nL (F a)) (ae (R j).length) (aX:=[]) (cs:=[]) (it:=.var 12) (e:=.call (.bc (.obj 742)) (.cons (.var 0) .nil)) (by exact eW fi<|eW h12 rfl) (kj (by refine eW (tl ..) ?_;lia)) rfl (λa=>nI (jF aR lR (R j) a)) (λa ha=>by
   (refine jN (hF a (aC.mp ha)) λf1 f2 f3=>?_)
   exact eL (Bt f2 f3)<|aG (ah rfl aE) (B' (k:=k+29) f1 f2)) (by exact eW aq<|ll Ws rfl)
  rwa[if_neg ay]at this
 have p64:∀(C:my)(fr:List Slot),ev C (.bin .Sub (.bin .Pow (.lit (.int 2)) (.lit (.int 64))) (.lit (.int 1))) fr wl=some (.fv (nI (2^64-1)),wl):=λC fr=>by kernel_rfl
 have a5:∀(fr:List Slot),fr[8]?=some (.val (.list (dO (R j))))->fr[11]?=some (.val (fU (R j).length (sA (R j))))->fX fr [9]=some [.ro (.bool (lo j))]->ev (au N (k+30)) (.comp false 1 [9] (.call (.bc (.obj 737)) (.cons (.var 8) (.cons (.var 11) .nil))) [0] .nil (.emit (.ite (.var 1) (.bin .Sub (.bin .Pow (.lit (.int 2)) (.lit (.int 64))) (.lit (.int 1))) (.call (.bc (.obj 742)) (.cons (.var 0) .nil))))) fr wl=some (.fv (.list ((ae (R j).length).map λa=>nI (if lo j then 2^64-1 else jF aS lS (R j) a))),wl):=λfr h8 h11 hs=>by
  have:=comp_map (own:=false) (C:=au N (k+30)) (wl:=wl) (fr:=fr) (λa=>nL (S a)) (ae (R j).length) (aX:=[9]) (cs:=[.ro (.bool (lo j))]) (it:=.call (.bc (.obj 737)) (.cons (.var 8) (.cons (.var 11) .nil))) (e:=.ite (.var 1) (.bin .Sub (.bin .Pow (.lit (.int 2)) (.lit (.int 64))) (.lit (.int 1))) (.call (.bc (.obj 742)) (.cons (.var 0) .nil))) (aG (ah (by exact eW fi<|eW h8 rfl) (ah (by exact eW fi<|eW h11 rfl) aE)) eS) (kj (by refine eW (tl ..) ?_;lia)) hs (λa=>nI (if lo j then 2^64-1 else jF aS lS (R j) a)) (λa ha=>by
   (refine jN (hS a (aC.mp ha)) λf1 f2 f3=>?_)
   refine Cy (c:=lo j) (jG rfl rfl) (λq=>?_) (λq=>?_)
   . exact eW q<|eW (if_pos rfl)<|p64 _ _
   . rw[q,if_neg ay,<-Bt f2 f3]
     exact aG (ah rfl aE) (B' (k:=k+29) f1 f2)) (by exact eW aq<|ll Ws rfl)
  rwa[if_neg ay]at this
 have r5:=Bu (λi=>nI (RG m R i)) (λa=>nI (jF aR lR (R j) a)) (aD R j) (R j).length λa ha=>by exact eW ((t8 hm hR hj ha).1) rfl
 have r6:=Bu (λi=>nI (SG m R lo i)) (λa=>nI (if lo j then 2^64-1 else jF aS lS (R j) a)) (aD R j) (R j).length λa ha=>by exact eW ((t8 hm hR hj ha).2.1) rfl
 have s1:∀(fr:List Slot),fr=TB cy parts m R lo (aD R j) (aD R j) (.val (.list (dO (R j)))) (.val (.bool (lo j))) Sf Vv Uu JJ E_->ex (au N (k+30)) N (o6 0 (bR (bodyOf jm))) (fr,wl)=some (.next,TB cy parts m R lo (aD R j) (aD R j) (.val (.list (dO (R j)))) (.val (.bool (lo j))) (.val (nI (aD R j))) (.val (fU (R j).length (sA (R j)))) Uu JJ E_,wl):=λfr lC=>by
  subst lC;refine gm (xs:=[.fv (nI (aD R j)),.fv (fU (R j).length (sA (R j)))]) (ah (cK (ah rfl aE) ?_) (ah (a1 _ rfl rfl) aE)) ?_
  . show(if cg (eY m R (aD R j)).length=true then some (EV.fv (.int ((eY m R (aD R j)).length:Nat)))else ab)=_
    exact eW (aj ..)<|eW aq<|eW (if_pos (show cg _=true from decide_eq_true (ll (ak (aP _ _) UI) rfl))) rfl
  . show(setSlot _ 10 _).bind _=_
    rw[jB rfl Ts,bK]
    show(setSlot _ 11 _).bind _=_;rw[jB rfl h11];rfl
 refine kz ?_;refine⟨.val (nI (aD R j)),.val (fU (R j).length (sA (R j))),.val (fU (R j).length F),M',M9,.va _,.va _,.va _,ZW,ZV,ao (s1 _ rfl)<|ao (aZ (aG (ah rfl (ah (a2 _ 2 aR rfl λ_ _=>rfl) (ah (a2 _ 3 lR rfl λ_ _=>rfl) aE))) eF) (jB rfl h12))<|ao e13<|
  ao (pS (xs:=(ae (aD R j)).map λi=>nI (RG m R i)) rfl (a4 _ rfl) (decide_eq_true (by exact eW (aj ..)<|eW (aj ..)<|eW aq<|eW aq<|ll UI rfl)))<|ao (pS (w1:=wl) (ds:=(ae (R j).length).map λa=>nI (if lo j then 2^64-1 else jF aS lS (R j) a)) (xs:=(ae (aD R j)).map λi=>nI (SG m R lo i)) rfl (a5 _ rfl rfl rfl) (decide_eq_true (by exact eW (aj ..)<|eW (aj ..)<|eW aq<|eW aq<|ll UI rfl))) ?_⟩
 exact eW r5<|eW r6 rfl
end
theorem Ko(l:List Nat)(hx:x.eh=some (l.map nI))(hy:y.eh=some (l.map nI))(hi:pP x=none)(hs:L8 x=none):mR .NotEq x y=some false:=by
 show(UK x y).elim _ _=_;rw[Xt hi hs hx hy (jV l) (jV l),decide_eq_true rfl];rfl
theorem rX{a b:IE}(l:List Nat)(h1:ev C a fr wl=some (x,wl))(h2:ev C b fr wl=some (y,wl))(hx:x.eh=some (l.map nI))(hy:y.eh=some (l.map nI))(hs:pP x=none)(ht:L8 x=none):eK C (.cmp .NotEq a b) fr wl=some (false,wl):=fJ h1 h2 (Ko l hx hy hs ht)
theorem Ki(M:Nat):((ae 64).filter M.testBit).length<=64:=ak (dF _ _) (bh aq)
theorem Ht{M:Nat}(hM:M<2^64)(hN:70<=N){s17:Slot}(h16:fr[16]?=some (.val (nI M)))(h17:fr[17]?=some s17)(hy:Y s17)(hs:fX fr [16]=some [.ro (nI M)]):hU (au N (k+30)) N (bR (lZ 7 (bodyOf jm))) (fr,wl)=some (.next,fr.set 17 (.val (nL ((ae 64).filter M.testBit))),wl):=by
 have hl:=Ki M;obtain⟨ns,UB⟩:∃ns,ns=(ae 64).filter M.testBit:=⟨_,rfl⟩
 have mem:∀t,t∈ns↔t<64/\M.testBit t=true:=λt=>by rw[UB,eO,aC]
 have a1:ev (au N (k+30)) (.comp false 1 [16] (.bj .range false (.cons (.lit (.int 64)) .nil)) [0] (.cons (.cmp .Eq (.bin .BitAnd (.bin .RShift (.var 1) (.var 0)) (.lit (.int 1))) (.lit (.int 1))) .nil) (.emit (.var 0))) fr wl=some (.fv (nL ns),wl):=by
  rw[UB];exact gA (own:=false) nI (ae 64) (x:=.fv (.range 0 64 1)) rfl (cN (b:=64) (by decide)) hs M.testBit nI (λn _=>by
   have h:=Cg (C:=au N (k+30)) (fr:=[.val (nI n),.ro (nI M)]) (wl:=wl) rfl rfl;induction q:M.testBit n using ax with
   |true=>exact dR (q▸h) pC
   |false=>exact d6 (q▸h)) (λ_ _ _=>rfl) (by decide)
 rw[<-UB]at hl⊢
 have g16:(fr.set 17 (.val (nL ns)))[16]?=some (.val (nI M)):=by rw[b_ (by decide)];exact h16
 have g17:(fr.set 17 (.val (nL ns)))[17]?=some (.val (nL ns)):=cu (c9.mp h17).1
 have v16:ev (au N (k+30)) (.var 16) (fr.set 17 (.val (nL ns))) wl=some (.fv (nI M),wl):=by exact eW fi<|eW g16 rfl
 have Zi:ev (au N (k+30)) (.var 17) (fr.set 17 (.val (nL ns))) wl=some (.fv (nL ns),wl):=by exact eW fi<|eW g17 rfl
 have rv:ev (au N (k+30)) (.rev (.var 17)) (fr.set 17 (.val (nL ns))) wl=some (.fv (nL ns.reverse),wl):=by
  refine eW Lm<|eW Zi<|eW (bK ..) ?_
  show(if cg (ns.map nI).length=true then some (EV.fv (.list (ns.map nI).reverse))else ab).map _=_;rw[if_pos (show cg _=true from decide_eq_true (by rw[aj];lia)),nL,<-M0];rfl
 have sl:ev (au N (k+30)) (.xy (.var 17) (.lit .none) (.lit (.int 1))) (fr.set 17 (.val (nL ns))) wl=some (.fv (nL (ns.take 1)),wl):=by
  refine MG Zi rfl rfl ?_
  show(if cg (ns.map nI).length=true then some (EV.fv (.list ((ns.map nI).take 1)))else ab)=_;rw[if_pos (show cg _=true from decide_eq_true (by rw[aj];lia)),nL,Aw]
 have jn:ev (au N (k+30)) (.bin .Add (.rev (.var 17)) (.xy (.var 17) (.lit .none) (.lit (.int 1)))) (fr.set 17 (.val (nL ns))) wl=some (.fv (nL (ns.reverse++ns.take 1)),wl):=by
  refine dh rv sl ?_
  show(if cg ((ns.reverse.map nI).length+((ns.take 1).map nI).length)=true then some (EV.fv (.list (ns.reverse.map nI++(ns.take 1).map nI)))else ab)=_;rw[if_pos (show cg _=true from decide_eq_true (by rw[aj,aj,iN,gf];lia)),nL,bf]
 have QN:bG (ns.reverse++ns.take 1)=M:=(vM λt=>by
  refine iW cq<|iW n9<|iW (mem ..) ?_;constructor
  . intro q
    refine .inl ⟨fg λc=>?_,q⟩;rw[jY (az hM (kV (by decide) (by lia)))]at q;exact ay q
  . rintro (q|q)
    . exact q.2
    . exact((mem t).mp (kN q)).2).symm
 have e2:=th (N:=N) (k:=k+29) (wl:=wl) (d9 (l:=ns.reverse++ns.take 1) (by refine eW aJ<|eW iN<|eW gf ?_;lia)) λn hn=>by
  rcases cq.mp hn with q|q
  . have:=((mem n).mp (n9.mp q)).1;lia
  . have:=((mem n).mp (kN q)).1;lia
 rw[QN]at e2
 have e1:=Aa (N:=N) (k:=k+28) (wl:=wl) hM hN;rw[<-UB]at e1;exact ao (aZ a1 (jB h17 hy))<|ao (kU (Ah (f5 (b:=false) (rX ns (aG (ah v16 aE) e1) Zi rfl rfl rfl rfl) λ_=>f5 (b:=false) (Mh (x:=M) (y:=M) (r:=true) (beq_self_eq_true _) (aG (ah jn aE) e2) v16) λ_=>r_))) aY
structure S7 where
 a:Slot
 b:Slot
 c:Slot
 d:Slot
 e:Slot
 f:Slot
 g:Slot
structure S7.Ok(s:S7):Prop where
 a:Y s.a
 b:Y s.b
 c:Y s.c
 d:Y s.d
 e:Y s.e
 f:Y s.f
 g:Y s.g
def zp(m:Nat)(R:Nat->List Row)(lo:Nat->Bool):FV:=.list ((ae m).map λj=>rx (R j) (lo j))
def JF(cy:FV)(m:Nat)(R:Nat->List Row)(lo:Nat->Bool)(a:Nat×S7):List Slot:=TB cy (zp m R lo) m R lo (aD R a.1) (aD R a.1) a.2.a a.2.b a.2.c a.2.d a.2.e a.2.f a.2.g
def TF(cy:FV)(m:Nat)(R:Nat->List Row)(lo:Nat->Bool)(s:S7)(y x:Slot):List Slot:=[.val cy,.val .well,.val (nI m),.val (zp m R lo),.own (.ob (.list (eY m R (aD R m)))),.own (.ob (.list ((ae (aD R m)).map λi=>nI (RG m R i)))),.own (.ob (.list ((ae (aD R m)).map λi=>nI (SG m R lo i)))),.own (.ob (.list (((ae (aD R m)).filter (DG m R)).map nI))),s.a,s.b,s.c,s.d,s.e,s.f,s.g,.val (progOf m R).fv,y,x]
section
variable {m:Nat}{R:Nat->List Row}{lo:Nat->Bool}(hm:1<=m/\m<=3)(hR:∀j,j<m->mv N (R j) (lo j) (decide (j+1<m)))(hN:2^80<=N)
include hm hR hN
theorem Hz:∃s,ex (au N (k+30)) N (.for [8,9] (.var 3) (bR (bodyOf jm))) (JF cy m R lo (0,⟨.unset,.unset,.unset,.unset,.unset,.unset,.unset⟩),wl)=some (.next,JF cy m R lo (m,s),wl):=
 bS (Pj (C:=au N (k+30)) (N:=N) (wl:=wl) (fr:=JF cy m R lo (0,⟨.unset,.unset,.unset,.unset,.unset,.unset,.unset⟩)) (JF cy m R lo) (λ_=>wl) (λn a=>a.1=n/\a.2.Ok) (0,⟨.unset,.unset,.unset,.unset,.unset,.unset,.unset⟩) (is:=[8,9]) (it:=.var 3) (b:=bR (bodyOf jm))
  (x:=.fv (zp m R lo)) rfl (kj (by exact eW (aj ..)<|eW aq<|ll hm.2 rfl)) rfl ⟨rfl,.un,.un,.un,.un,.un,.un,.un⟩ λj v a hv=>J6 a λj' s g=>xA g λ(ej:j'=j) o=>xA (JN hv) λhj e=>by
    subst ej e;refine u_ (Hk hm hR (k:=k) (wl:=wl) (cy:=cy) (parts:=zp m R lo) (ak (by decide) hN) hj o.c o.d o.e o.f o.g) λYi Yh q=>fS q λYg M' M9 k10 k11 k12 k13 k14 e=>?_;exact⟨_,bs (jB rfl o.a) (bs (jB rfl o.b) rfl),.next,(j'+1,⟨.val (.list (dO (R j'))),.val (.bool (lo j')),Yi,Yh,Yg,M',M9⟩),e,fw,rfl,.va _,.va _,k10,k11,k12,k13,k14⟩) λa g e=>by
  rw[aj,aq]at g;exact⟨a.2,(show a=(m,a.2)from Prod.ext g.1 rfl)▸e⟩
theorem DF{s:S7}{y:Slot}:eK (au N (k+30)) (.uJ (.cons (.cmp .NotEq (.call (.bc (.obj 609)) (.cons (.var 15) .nil)) (.var 5)) (.cons (.cmp .NotEq (.call (.bc (.obj 649)) (.cons (.var 15) .nil)) (.var 6)) (.cons (.cmp .NotEq (.call (.bc (.obj 656)) (.cons (.var 15) .nil)) (.var 7)) .nil)))) (TF cy m R lo s .unset y) wl=some (false,wl)/\RG m R 0<2^64/\SG m R lo 0<2^64:=by
 have h:=rt hm hR
 have pos:=h.pos;refine bS (yS h (k:=k+15) (wl:=wl) hN) λL1 hL1 c1=>bS (Cb h (k:=k+15) (wl:=wl) hN) λL2 Yy c2=>bS (Ic h (k:=k+14) (wl:=wl) hN) λL3 hL3 c3=>?_
 have r1:((ae (progOf m R).n).map λi=>nI (L1 i))=(ae (aD R m)).map λi=>nI (RG m R i):=dA λi hi=>congrArg nI (zm hm hR hL1 (aC.mp hi))
 have r2:((ae (progOf m R).n).map λi=>nI (L2 i))=(ae (aD R m)).map λi=>nI (SG m R lo i):=dA λi hi=>congrArg nI (AU hm hR Yy (aC.mp hi))
 have r3:((ae (progOf m R).n).filter λi=>((progOf m R).r i).xX&&bG ((progOf m R).r i).gv&&&ry L3 ((progOf m R).succ i)==0)=(ae (aD R m)).filter (DG m R):=List.filter_congr λi hi=>PA hm hR (λi hi=>zm hm hR hL3 hi) (aC.mp hi);rw[r1]at c1;rw[r2]at c2;rw[r3]at c3;refine⟨Ah (f5 (b:=false) (rX ((ae (aD R m)).map (RG m R)) (aG (ah rfl aE) c1) rfl (by refine eW bH ?_;rfl) (by exact eW bH rfl) rfl rfl) λ_=>f5 (b:=false) (rX ((ae (aD R m)).map (SG m R lo)) (aG (ah rfl aE) c2) rfl (by exact eW bH rfl) (by exact eW bH rfl) rfl rfl) λ_=>
  f5 (b:=false) (rX ((ae (aD R m)).filter (DG m R)) (aG (ah rfl aE) c3) rfl rfl rfl rfl rfl) λ_=>r_),zm hm hR hL1 pos▸(hL1 0 pos).1,?_⟩
 refine eL (AU hm hR Yy pos) ?_;by_cases q:(progOf m R).opened 0
 . refine eW ((Yy 0 pos).1 q) ?_;decide
 . exact((Yy 0 pos).2 q).1
theorem HA{s:S7}{M:Nat}(hM:M<2^64)(h1:RG m R 0<2^64)(h2:SG m R lo 0<2^64)(eM:∀k,au N (k+1) (.obj 678) [.fv .well,.fv (nI (2^64))] wl=some (nI M,w2)):∃y x,ex (au N (k+30)) N (o6 3 (lZ 4 (bodyOf jm))) (TF cy m R lo s .unset .unset,wl)=some (.next,TF cy m R lo s y x,w2):=
 have pos:0<aD R m:=(rt hm hR).pos
 tS (C:=au N (k+30)) (N:=N) (wl:=wl) (fr:=TF cy m R lo s .unset .unset) (λ(a:Slot) y=>TF cy m R lo s y a) (λ_=>w2) (λ_ a=>Y a) .unset (j:=16) (y0:=.unset)
  (it:=.lst false (.cons (.call (.bc (.obj 678)) (.cons (.var 1) (.cons (.bin .Pow (.lit (.int 2)) (.lit (.int 64))) .nil))) (.cons (.idx (.var 5) (.lit (.int 0))) (.cons (.idx (.var 6) (.lit (.int 0))) .nil)))) (b:=bR (lZ 7 (bodyOf jm))) (x:=.fv (nL [M,RG m R 0,SG m R lo 0])) (l:=[M,RG m R 0,SG m R lo 0]) (g:=nI)
  (y6 (own:=false) (ah (aG (ah rfl (ah (by kernel_rfl) aE)) (eM (k+29))) (ah (de (x:=.bor (.ob (.list ((ae (aD R m)).map λi=>nI (RG m R i))))) rfl rfl (nJ (n:=0) (eD pos) (by decide))) (ah (de (x:=.bor (.ob (.list ((ae (aD R m)).map λi=>nI (SG m R lo i))))) rfl rfl (nJ (n:=0) (eD pos) (by decide))) aE))) rfl) (d9 (av rfl)) rfl .un .un (λ_ _=>rfl) (λ_ _ _=>rfl) (λi x a hv hY=>
    have Tf:x<2^64:=(a6.mp (aF hv)).elim (λe=>e▸hM) λq=>(a6.mp q).elim (λe=>e▸h1) λq=>aI.mp q▸h2
    .next (.val (nL ((ae 64).filter x.testBit))) (.val (nI x)) (Ht (k:=k) Tf (ak (by decide) hN) rfl rfl hY rfl) (.va _) (.va _)) λa y _ _ e=>⟨y,a,e⟩
theorem KI(hW:W c wl)(hc:c<=600000):∃cJ w',hU (au N (k+30)) N (lZ 4 (bodyOf jm)) (JF cy m R lo (0,⟨.unset,.unset,.unset,.unset,.unset,.unset,.unset⟩),wl)=some (.ret (.bool true),cJ,w'):=by
 have h:=rt hm hR;refine xE (Hz hm hR hN (k:=k) (wl:=wl) (cy:=cy)) λs e1=>jN (DF hm hR hN (k:=k) (wl:=wl) (cy:=cy) (s:=s) (y:=.unset)) λt m0 m1=>cO (dj (N:=N) (m:=2^64) hW (by lia) (by decide) (by decide)) λM w2 hM _ eM=>u_ (HA hm hR hN (k:=k) (cy:=cy) (s:=s) hM m0 m1 eM) λy x e2=>?_
 have mk:Ci false [.bor (.ob (.list (eY m R (aD R m))))]=some (.fv (fH (progOf m R))):=by
  show(if cg (eY m R (aD R m)).length=true then some (eY m R (aD R m))else ab).map _=_;rw[if_pos (show cg _=true from decide_eq_true (by rw[aj,aq];exact ll (show aD R m<=30 from h.i2) rfl))];rfl
 exact⟨_,w2,ao e1<|ao (aZ (aG (ah rfl aE) (z_ h (k:=k+14) (ak (by decide) hN) rfl mk)) rfl)<|ao (kU t)<|ao e2<|br (bZ rfl)⟩
end
theorem Nn(hN:2^80<=N){ns:List Int}(hn:ns.length<=63):∃wl,au N (k+31) (.obj 747) [.fv (.list (ns.map FV.int))] none=some (.bool true,wl):=by
 (refine bS (H9 (N:=N) (k:=k+29) hn) λw0 HO e0=>?_)
 (refine cO (dj (N:=N) (m:=3) HO (by decide) (by decide) (by decide)) λf w1 hf hw1 e1=>?_)
 (refine jM (Eh (N:=N) (k:=k+25) (m:=1+f) (fr:=[.val (.list (ns.map FV.int)),.val .well,.val (nI (1+f)),.unset,.unset,.unset,.unset,.unset,.unset,.unset,.unset,.unset,.unset,.unset,.unset,.unset,.unset,.unset]) (by lia) hw1 (by decide) rfl rfl) λR lo w2 hR hw2 e2=>?_)
 (refine u_ (KI (k:=k) (cy:=.list (ns.map FV.int)) ⟨by lia,by lia⟩ hR hN hw2 (by lia)) λcJ w3 e3=>?_)
 exact⟨w3,cM (k:=k+30) rfl<|bt rfl rfl<|ao (aZ (aG (ah rfl aE) e0) rfl)<|ao (aZ (d:=nI (1+f)) (dh rfl (aG (ah rfl (ah rfl aE)) (e1 _)) rfl) rfl)<|ao (aZ e2 rfl)<|ao (gm (xs:=[.own (.ob (.list [])),.own (.ob (.list [])),.own (.ob (.list [])),.own (.ob (.list []))]) rfl rfl) e3⟩
theorem Uw:xk:=⟨2^80,31,by decide,λns hn=>Nn (k:=0) (aT _) hn⟩
end
end Mine
theorem PySem.Challenge.cw_pq0981_01_holds : PySem.Challenge.rw_pq0981_01.Holds :=
 Mine.K3 Mine.Uw
